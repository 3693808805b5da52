import PyProof.Rows.All
import Wide.All
import OpenK.AllK
import Wide.FinOn
import HandS.ForMost
import HandS.TupAny
import HandS.Style
import HandS.Star
import HandS.IsInst
import HandS.Walk
import HandS.SortRule
import KE.KTupSum
import KE.DataMinMax
import KE.GoesEnum
import HandS.Conv
import KE.KStateDown
import HandS.Defaults
import HandS.Head0
import HandS.Head1
import HandS.Head2
import HandS.HeadEnd
import HandS.HeadHook1
import HandS.HeadHook2
import PySem.Challenge.RW_wordshapes_k12_whole_words_alike_and_cha
set_option Elab.async false
set_option linter.all false
set_option maxRecDepth 10000
/-! Words, rows, moves: the plain mathematics of the law (no program in sight). -/
namespace WS

/-- a letter put into a row: the row, the letter that has to leave -/
def ins : List Int → Int → List Int × Option Int
  | [], x => ([x], none)
  | r :: rs, x => if x < r then (x :: rs, some r) else (r :: (ins rs x).1, (ins rs x).2)
def put : List (List Int) → Int → List (List Int)
  | [], x => [[x]]
  | R :: Rs, x => match ins R x with
    | (R', none) => R' :: Rs
    | (R', some b) => R' :: put Rs b
def rowsOf (w : List Int) : List (List Int) := w.foldl put []
/-- the word of rows, the last row first -/
def wordOf : List (List Int) → List Int
  | [] => []
  | R :: Rs => wordOf Rs ++ R
def three (u v w : Int) : Option (Int × Int × Int) :=
  if (v < u ∧ u ≤ w) ∨ (w < u ∧ u ≤ v) then some (u, w, v)
  else if (u ≤ w ∧ w < v) ∨ (v ≤ w ∧ w < u) then some (v, u, w) else none
def after : List Int → Nat → Option (List Int)
  | u :: v :: w :: r, 0 => (three u v w).map fun t => t.1 :: t.2.1 :: t.2.2 :: r
  | a :: r, k + 1 => (after r k).map (a :: ·)
  | _, _ => none
def path : List Int → List Nat → Option (List Int)
  | w, [] => some w
  | w, k :: ks => (after w k).bind fun v => path v ks

/-! ### moves -/
theorem path_append : ∀ (ks ls : List Nat) (w : List Int), path w (ks ++ ls) = (path w ks).bind fun v => path v ls
  | [], ls, w => rfl
  | k :: ks, ls, w => by
    show (after w k).bind (fun v => path v (ks ++ ls)) = ((after w k).bind fun v => path v ks).bind fun v => path v ls
    cases after w k with
    | none => rfl
    | some v => exact path_append ks ls v
theorem path_trans {w v u : List Int} {ks ls : List Nat} (h : path w ks = some v) (g : path v ls = some u) : path w (ks ++ ls) = some u := by
  rw [path_append, h]
  exact g
theorem three_back {u v w a b c : Int} (h : three u v w = some (a, b, c)) : three a b c = some (u, v, w) := by
  unfold three at h ⊢
  split at h
  · rename_i h1
    cases h
    rw [if_pos (by omega)]
  · rename_i h1
    split at h
    · rename_i h2
      cases h
      rw [if_neg (by omega), if_pos (by omega)]
    · cases h
theorem after_zero {u v w : Int} {r x : List Int} (h : after (u :: v :: w :: r) 0 = some x) : ∃ a b c, three u v w = some (a, b, c) ∧ x = a :: b :: c :: r := by
  simp only [after] at h
  cases e : three u v w with
  | none => rw [e] at h; cases h
  | some t =>
    obtain ⟨a, b, c⟩ := t
    rw [e] at h
    exact ⟨a, b, c, rfl, (Option.some.inj h).symm⟩
theorem after_succ {a : Int} {r x : List Int} {k : Nat} (h : after (a :: r) (k + 1) = some x) : ∃ y, after r k = some y ∧ x = a :: y := by
  simp only [after] at h
  cases e : after r k with
  | none => rw [e] at h; cases h
  | some y =>
    rw [e] at h
    exact ⟨y, rfl, (Option.some.inj h).symm⟩
theorem after_nil (k : Nat) : after [] k = none := by cases k <;> rfl
/-- a move, taken apart -/
theorem after_parts : ∀ {k : Nat} {w x : List Int}, after w k = some x → ∃ p u v z a b c s, w = p ++ u :: v :: z :: s ∧ x = p ++ a :: b :: c :: s ∧ p.length = k ∧ three u v z = some (a, b, c)
  | 0, [], x, h => by cases h
  | 0, [_], x, h => by cases h
  | 0, [_, _], x, h => by cases h
  | 0, u :: v :: z :: r, x, h => by
    obtain ⟨a, b, c, e, rfl⟩ := after_zero h
    exact ⟨[], u, v, z, a, b, c, r, rfl, rfl, rfl, e⟩
  | k + 1, [], x, h => by cases h
  | k + 1, d :: r, x, h => by
    obtain ⟨y, hy, rfl⟩ := after_succ h
    obtain ⟨p, u, v, z, a, b, c, s, rfl, rfl, rfl, e⟩ := after_parts hy
    exact ⟨d :: p, u, v, z, a, b, c, s, rfl, rfl, rfl, e⟩
theorem after_make {u v z a b c : Int} (h : three u v z = some (a, b, c)) : ∀ (p s : List Int), after (p ++ u :: v :: z :: s) p.length = some (p ++ a :: b :: c :: s)
  | [], s => by
    show (three u v z).map _ = _
    rw [h]
    rfl
  | d :: p, s => by
    simp only [List.cons_append, List.length_cons, after, after_make h p s, Option.map_some]
theorem after_back {w x : List Int} {k : Nat} (h : after w k = some x) : after x k = some w := by
  obtain ⟨p, u, v, z, a, b, c, s, rfl, rfl, rfl, e⟩ := after_parts h
  exact after_make (three_back e) p s
theorem path_back : ∀ {ks : List Nat} {w x : List Int}, path w ks = some x → path x ks.reverse = some w
  | [], w, x, h => by
    cases h
    rfl
  | k :: ks, w, x, h => by
    have h' : (after w k).bind (fun v => path v ks) = some x := h
    cases e : after w k with
    | none => rw [e] at h'; cases h'
    | some v =>
      rw [e] at h'
      rw [List.reverse_cons]
      refine path_trans (path_back h') ?_
      show (after v k).bind _ = _
      rw [after_back e]
      rfl
theorem after_len {w x : List Int} {k : Nat} (h : after w k = some x) : x.length = w.length ∧ k + 3 ≤ w.length := by
  obtain ⟨p, u, v, z, a, b, c, s, rfl, rfl, rfl, e⟩ := after_parts h
  rw [List.length_append, List.length_append, List.length_cons, List.length_cons, List.length_cons, List.length_cons, List.length_cons, List.length_cons]
  exact ⟨rfl, by omega⟩
theorem after_left (p : List Int) {w x : List Int} {k : Nat} (h : after w k = some x) : after (p ++ w) (p.length + k) = some (p ++ x) := by
  obtain ⟨q, u, v, z, a, b, c, s, rfl, rfl, rfl, e⟩ := after_parts h
  rw [← List.append_assoc, ← List.append_assoc, ← List.length_append]
  exact after_make e (p ++ q) s
theorem after_right (p : List Int) {w x : List Int} {k : Nat} (h : after w k = some x) : after (w ++ p) k = some (x ++ p) := by
  obtain ⟨q, u, v, z, a, b, c, s, rfl, rfl, rfl, e⟩ := after_parts h
  rw [List.append_assoc, List.append_assoc]
  exact after_make e q (s ++ p)
theorem path_cons {w v x : List Int} {k : Nat} {ks : List Nat} (h : after w k = some v) (g : path v ks = some x) : path w (k :: ks) = some x := by
  show (after w k).bind (fun v => path v ks) = some x
  rw [h]
  exact g
theorem path_uncons {w x : List Int} {k : Nat} {ks : List Nat} (h : path w (k :: ks) = some x) : ∃ v, after w k = some v ∧ path v ks = some x := by
  have h' : (after w k).bind (fun v => path v ks) = some x := h
  cases e : after w k with
  | none => rw [e] at h'; cases h'
  | some v =>
    rw [e] at h'
    exact ⟨v, rfl, h'⟩
theorem path_left (p : List Int) : ∀ {ks : List Nat} {w x : List Int}, path w ks = some x → path (p ++ w) (ks.map (p.length + ·)) = some (p ++ x)
  | [], w, x, h => by
    cases h
    rfl
  | k :: ks, w, x, h => by
    obtain ⟨v, h1, h2⟩ := path_uncons h
    rw [List.map_cons]
    exact path_cons (after_left p h1) (path_left p h2)
theorem path_right (p : List Int) : ∀ {ks : List Nat} {w x : List Int}, path w ks = some x → path (w ++ p) ks = some (x ++ p)
  | [], w, x, h => by
    cases h
    rfl
  | k :: ks, w, x, h => by
    obtain ⟨v, h1, h2⟩ := path_uncons h
    exact path_cons (after_right p h1) (path_right p h2)
/-- what every move keeps, every path keeps -/
theorem path_keeps {P : List Int → Prop} (hP : ∀ w x k, after w k = some x → P w → P x) : ∀ {ks : List Nat} {w x : List Int}, path w ks = some x → P w → P x
  | [], w, x, h, p => by
    cases h
    exact p
  | k :: ks, w, x, h, p => by
    obtain ⟨v, h1, h2⟩ := path_uncons h
    exact path_keeps hP h2 (hP _ _ _ h1 p)
theorem three_perm {u v z a b c : Int} (h : three u v z = some (a, b, c)) : (a = u ∧ b = z ∧ c = v ∧ v ≠ z) ∨ (a = v ∧ b = u ∧ c = z ∧ u ≠ v) := by
  unfold three at h
  split at h
  · cases h
    exact .inl ⟨rfl, rfl, rfl, by omega⟩
  · split at h
    · cases h
      exact .inr ⟨rfl, rfl, rfl, by omega⟩
    · cases h
theorem after_perm {w x : List Int} {k : Nat} (h : after w k = some x) : x.Perm w := by
  obtain ⟨p, u, v, z, a, b, c, s, rfl, rfl, rfl, e⟩ := after_parts h
  refine List.Perm.append_left p ?_
  rcases three_perm e with ⟨rfl, rfl, rfl, _⟩ | ⟨rfl, rfl, rfl, _⟩
  · exact (List.Perm.swap _ _ _).cons _
  · exact List.Perm.swap _ _ _
theorem path_perm {w x : List Int} {ks : List Nat} (h : path w ks = some x) : x.Perm w :=
  path_keeps (P := fun y => y.Perm w) (fun _ _ _ h p => (after_perm h).trans p) h (List.Perm.refl w)

/-! ### rows -/
abbrev Sorted (R : List Int) : Prop := R.Pairwise (· ≤ ·)
theorem ins_lt {r x : Int} {rs : List Int} (h : x < r) : ins (r :: rs) x = (x :: rs, some r) := if_pos h
theorem ins_ge {r x : Int} {rs : List Int} (h : r ≤ x) : ins (r :: rs) x = (r :: (ins rs x).1, (ins rs x).2) := if_neg (by omega)
theorem ins_mem : ∀ {R : List Int} {x y : Int}, y ∈ (ins R x).1 → y = x ∨ y ∈ R
  | [], x, y, h => by
    exact .inl (List.mem_singleton.mp h)
  | r :: rs, x, y, h => by
    by_cases hr : x < r
    · rw [ins_lt hr] at h
      rcases List.mem_cons.mp h with h | h
      · exact .inl h
      · exact .inr (List.mem_cons_of_mem _ h)
    · rw [ins_ge (by omega)] at h
      rcases List.mem_cons.mp h with h | h
      · exact .inr (h ▸ List.mem_cons_self)
      · rcases ins_mem h with h | h
        · exact .inl h
        · exact .inr (List.mem_cons_of_mem _ h)
theorem ins_sorted : ∀ {R : List Int} {x : Int}, Sorted R → Sorted (ins R x).1
  | [], x, _ => List.pairwise_singleton _ _
  | r :: rs, x, h => by
    obtain ⟨h1, h2⟩ := List.pairwise_cons.mp h
    by_cases hr : x < r
    · rw [ins_lt hr]
      exact List.pairwise_cons.mpr ⟨fun y hy => by have := h1 y hy; omega, h2⟩
    · rw [ins_ge (by omega)]
      refine List.pairwise_cons.mpr ⟨fun y hy => ?_, ins_sorted h2⟩
      rcases ins_mem hy with e | e
      · omega
      · exact h1 y e
theorem ins_some : ∀ {R : List Int} {x b : Int}, (ins R x).2 = some b → x < b ∧ b ∈ R
  | [], x, b, h => by cases h
  | r :: rs, x, b, h => by
    by_cases hr : x < r
    · rw [ins_lt hr] at h
      cases h
      exact ⟨hr, List.mem_cons_self⟩
    · rw [ins_ge (by omega)] at h
      obtain ⟨h1, h2⟩ := ins_some h
      exact ⟨h1, List.mem_cons_of_mem _ h2⟩
theorem ins_none : ∀ {R : List Int} {x : Int}, (ins R x).2 = none → (ins R x).1 = R ++ [x] ∧ ∀ y ∈ R, y ≤ x
  | [], x, h => ⟨rfl, fun y hy => by cases hy⟩
  | r :: rs, x, h => by
    by_cases hr : x < r
    · rw [ins_lt hr] at h
      cases h
    · rw [ins_ge (by omega)] at h ⊢
      obtain ⟨h1, h2⟩ := ins_none h
      refine ⟨by rw [h1]; rfl, fun y hy => ?_⟩
      rcases List.mem_cons.mp hy with e | e
      · omega
      · exact h2 y e
theorem ins_all_le : ∀ {R : List Int} {x : Int}, (∀ y ∈ R, y ≤ x) → ins R x = (R ++ [x], none)
  | [], x, h => rfl
  | r :: rs, x, h => by
    rw [ins_ge (h r List.mem_cons_self), ins_all_le fun y hy => h y (List.mem_cons_of_mem _ hy)]
    rfl
/-- a greater letter is there: some letter leaves, not above it -/
theorem ins_below : ∀ {R : List Int} {y z : Int}, Sorted R → z ∈ R → y < z → ∃ g, (ins R y).2 = some g ∧ g ≤ z
  | [], y, z, _, hz, _ => by cases hz
  | r :: rs, y, z, h, hz, hy => by
    obtain ⟨h1, h2⟩ := List.pairwise_cons.mp h
    by_cases hr : y < r
    · refine ⟨r, by rw [ins_lt hr], ?_⟩
      rcases List.mem_cons.mp hz with e | e
      · omega
      · exact h1 z e
    · rw [ins_ge (by omega)]
      refine ins_below h2 ?_ hy
      rcases List.mem_cons.mp hz with e | e
      · omega
      · exact e
theorem ins_self : ∀ {R : List Int} {x : Int}, x ∈ (ins R x).1
  | [], x => List.mem_singleton.mpr rfl
  | r :: rs, x => by
    by_cases hr : x < r
    · rw [ins_lt hr]
      exact List.mem_cons_self
    · rw [ins_ge (by omega)]
      exact List.mem_cons_of_mem _ ins_self
/-- two letters that do not fall, put one after the other: what leaves does not fall -/
theorem ins_two : ∀ {R : List Int} {y z b g : Int}, Sorted R → y ≤ z → (ins R y).2 = some b → (ins (ins R y).1 z).2 = some g → b ≤ g
  | [], y, z, b, g, _, _, h, _ => by cases h
  | r :: rs, y, z, b, g, hs, hyz, h1, h2 => by
    obtain ⟨s1, s2⟩ := List.pairwise_cons.mp hs
    by_cases hr : y < r
    · rw [ins_lt hr] at h1 h2
      cases h1
      rw [ins_ge (show y ≤ z from hyz)] at h2
      exact s1 g (ins_some h2).2
    · rw [ins_ge (show r ≤ y by omega)] at h1 h2
      rw [ins_ge (show r ≤ z by omega)] at h2
      exact ins_two s2 hyz h1 h2

/-- a word put into a row: the row, the word of the letters that leave -/
def insW : List Int → List Int → List Int × List Int
  | R, [] => (R, [])
  | R, x :: w => ((insW (ins R x).1 w).1, (ins R x).2.toList ++ (insW (ins R x).1 w).2)
theorem putW_cons : ∀ (w R : List Int) (Rs : List (List Int)), w.foldl put (R :: Rs) = (insW R w).1 :: (insW R w).2.foldl put Rs
  | [], R, Rs => rfl
  | x :: w, R, Rs => by
    show w.foldl put (put (R :: Rs) x) = _
    have e : put (R :: Rs) x = (ins R x).1 :: ((ins R x).2.toList).foldl put Rs := by
      show (match ins R x with
        | (R', none) => R' :: Rs
        | (R', some b) => R' :: put Rs b) = _
      cases ins R x with
      | mk R' o => cases o <;> rfl
    rw [e, putW_cons w]
    show _ = _ :: ((ins R x).2.toList ++ (insW (ins R x).1 w).2).foldl put Rs
    rw [List.foldl_append]
    rfl
theorem insW_pass : ∀ {w : List Int} {r : Int} {rs : List Int}, (∀ x ∈ w, r ≤ x) → insW (r :: rs) w = (r :: (insW rs w).1, (insW rs w).2)
  | [], r, rs, h => rfl
  | x :: w, r, rs, h => by
    show ((insW (ins (r :: rs) x).1 w).1, (ins (r :: rs) x).2.toList ++ (insW (ins (r :: rs) x).1 w).2) = _
    rw [ins_ge (h x List.mem_cons_self), insW_pass fun y hy => h y (List.mem_cons_of_mem _ hy)]
    rfl
inductive K3 : List Int → List Int → Prop
  | same (w : List Int) : K3 w w
  | e1 {x y z : Int} : x < y → y ≤ z → K3 [y, x, z] [y, z, x]
  | e2 {x y z : Int} : x ≤ y → y < z → K3 [x, z, y] [z, x, y]
  | e1s {x y z : Int} : x < y → y ≤ z → K3 [y, z, x] [y, x, z]
  | e2s {x y z : Int} : x ≤ y → y < z → K3 [z, x, y] [x, z, y]
theorem mem3 {P : Int → Prop} {a b c : Int} (ha : P a) (hb : P b) (hc : P c) : ∀ x ∈ [a, b, c], P x := fun x hx => by
  rcases List.mem_cons.mp hx with rfl | hx
  · exact ha
  · rcases List.mem_cons.mp hx with rfl | hx
    · exact hb
    · rcases List.mem_cons.mp hx with rfl | hx
      · exact hc
      · cases hx
theorem insW3 (R : List Int) (a b c : Int) : insW R [a, b, c] = ((ins (ins (ins R a).1 b).1 c).1, (ins R a).2.toList ++ ((ins (ins R a).1 b).2.toList ++ ((ins (ins (ins R a).1 b).1 c).2.toList ++ []))) := rfl
theorem row_e1 {x y z : Int} (hxy : x < y) (hyz : y ≤ z) : ∀ {R : List Int}, Sorted R → (insW R [y, x, z]).1 = (insW R [y, z, x]).1 ∧ K3 (insW R [y, x, z]).2 (insW R [y, z, x]).2
  | [], _ => by
    have e1 : insW [] [y, x, z] = ([x, z], [y]) := by
      rw [insW3]
      show ((ins (ins [y] x).1 z).1, [] ++ ((ins [y] x).2.toList ++ ((ins (ins [y] x).1 z).2.toList ++ []))) = _
      rw [ins_lt hxy]
      show ((ins [x] z).1, [] ++ ([y] ++ ((ins [x] z).2.toList ++ []))) = _
      rw [ins_ge (show x ≤ z by omega)]
      rfl
    have e2 : insW [] [y, z, x] = ([x, z], [y]) := by
      rw [insW3]
      show ((ins (ins [y] z).1 x).1, [] ++ ((ins [y] z).2.toList ++ ((ins (ins [y] z).1 x).2.toList ++ []))) = _
      rw [ins_ge hyz]
      show ((ins [y, z] x).1, [] ++ ([] ++ ((ins [y, z] x).2.toList ++ []))) = _
      rw [ins_lt hxy]
      rfl
    rw [e1, e2]
    exact ⟨rfl, .same _⟩
  | r :: rs, h => by
    obtain ⟨h1, h2⟩ := List.pairwise_cons.mp h
    by_cases hr : x < r
    · by_cases hy : y < r
      · -- y takes r's place
        rw [insW3, insW3, ins_lt hy]
        show ((ins (ins (y :: rs) x).1 z).1, [r] ++ ((ins (y :: rs) x).2.toList ++ ((ins (ins (y :: rs) x).1 z).2.toList ++ []))).1 = ((ins (ins (y :: rs) z).1 x).1, [r] ++ ((ins (y :: rs) z).2.toList ++ ((ins (ins (y :: rs) z).1 x).2.toList ++ []))).1
          ∧ K3 ([r] ++ ((ins (y :: rs) x).2.toList ++ ((ins (ins (y :: rs) x).1 z).2.toList ++ []))) ([r] ++ ((ins (y :: rs) z).2.toList ++ ((ins (ins (y :: rs) z).1 x).2.toList ++ [])))
        rw [ins_lt hxy, ins_ge (show y ≤ z from hyz)]
        show (ins (x :: rs) z).1 = (ins (y :: (ins rs z).1) x).1 ∧ K3 ([r] ++ ([y] ++ ((ins (x :: rs) z).2.toList ++ []))) ([r] ++ ((ins rs z).2.toList ++ ((ins (y :: (ins rs z).1) x).2.toList ++ [])))
        rw [ins_lt hxy, ins_ge (show x ≤ z by omega)]
        refine ⟨rfl, ?_⟩
        show K3 (r :: y :: ((ins rs z).2.toList ++ [])) (r :: ((ins rs z).2.toList ++ [y]))
        cases e : (ins rs z).2 with
        | none => exact .same _
        | some b =>
          obtain ⟨_, m1⟩ := ins_some e
          exact .e1 hy (h1 b m1)
      · -- y passes r, x takes its place
        have hry : r ≤ y := by omega
        have hrz : r ≤ z := by omega
        rw [insW3, insW3, ins_ge hry]
        show (ins (ins (r :: (ins rs y).1) x).1 z).1 = (ins (ins (r :: (ins rs y).1) z).1 x).1 ∧ K3 ((ins rs y).2.toList ++ ((ins (r :: (ins rs y).1) x).2.toList ++ ((ins (ins (r :: (ins rs y).1) x).1 z).2.toList ++ []))) ((ins rs y).2.toList ++ ((ins (r :: (ins rs y).1) z).2.toList ++ ((ins (ins (r :: (ins rs y).1) z).1 x).2.toList ++ [])))
        rw [ins_lt hr, ins_ge hrz]
        show (ins (x :: (ins rs y).1) z).1 = (ins (r :: (ins (ins rs y).1 z).1) x).1 ∧ K3 ((ins rs y).2.toList ++ ([r] ++ ((ins (x :: (ins rs y).1) z).2.toList ++ []))) ((ins rs y).2.toList ++ ((ins (ins rs y).1 z).2.toList ++ ((ins (r :: (ins (ins rs y).1 z).1) x).2.toList ++ [])))
        rw [ins_lt hr, ins_ge (show x ≤ z by omega)]
        refine ⟨rfl, ?_⟩
        show K3 ((ins rs y).2.toList ++ (r :: ((ins (ins rs y).1 z).2.toList ++ []))) ((ins rs y).2.toList ++ ((ins (ins rs y).1 z).2.toList ++ [r]))
        cases e2 : (ins (ins rs y).1 z).2 with
        | none => exact .same _
        | some g =>
          cases e1 : (ins rs y).2 with
          | none =>
            exfalso
            obtain ⟨q1, q2⟩ := ins_none e1
            have : (ins (ins rs y).1 z).2 = none := by
              rw [q1, ins_all_le fun s hs => ?_]
              rcases List.mem_append.mp hs with m | m
              · have := q2 s m
                omega
              · have := List.mem_singleton.mp m
                omega
            rw [this] at e2
            cases e2
          | some b =>
            have hb := (ins_some e1).1
            exact .e1 (show r < b by omega) (ins_two h2 hyz e1 e2)
    · -- all pass r
      rw [insW_pass (mem3 (P := fun v => r ≤ v) (by omega) (by omega) (by omega)), insW_pass (mem3 (P := fun v => r ≤ v) (by omega) (by omega) (by omega))]
      obtain ⟨q1, q2⟩ := row_e1 hxy hyz h2
      exact ⟨by rw [q1], q2⟩
theorem row_e2 {x y z : Int} (hxy : x ≤ y) (hyz : y < z) : ∀ {R : List Int}, Sorted R → (insW R [x, z, y]).1 = (insW R [z, x, y]).1 ∧ K3 (insW R [x, z, y]).2 (insW R [z, x, y]).2
  | [], _ => by
    have e1 : insW [] [x, z, y] = ([x, y], [z]) := by
      rw [insW3]
      show ((ins (ins [x] z).1 y).1, [] ++ ((ins [x] z).2.toList ++ ((ins (ins [x] z).1 y).2.toList ++ []))) = _
      rw [ins_ge (show x ≤ z by omega)]
      show ((ins [x, z] y).1, [] ++ ([] ++ ((ins [x, z] y).2.toList ++ []))) = _
      rw [ins_ge hxy, ins_lt hyz]
      rfl
    have e2 : insW [] [z, x, y] = ([x, y], [z]) := by
      rw [insW3]
      show ((ins (ins [z] x).1 y).1, [] ++ ((ins [z] x).2.toList ++ ((ins (ins [z] x).1 y).2.toList ++ []))) = _
      rw [ins_lt (show x < z by omega)]
      show ((ins [x] y).1, [] ++ ([z] ++ ((ins [x] y).2.toList ++ []))) = _
      rw [ins_ge hxy]
      rfl
    rw [e1, e2]
    exact ⟨rfl, .same _⟩
  | r :: rs, h => by
    obtain ⟨h1, h2⟩ := List.pairwise_cons.mp h
    by_cases hr : x < r
    · by_cases hz : z < r
      · -- z takes r's place, then x takes z's
        rw [insW3, insW3, ins_lt hr, ins_lt hz]
        show (ins (ins (x :: rs) z).1 y).1 = (ins (ins (z :: rs) x).1 y).1 ∧ K3 ([r] ++ ((ins (x :: rs) z).2.toList ++ ((ins (ins (x :: rs) z).1 y).2.toList ++ []))) ([r] ++ ((ins (z :: rs) x).2.toList ++ ((ins (ins (z :: rs) x).1 y).2.toList ++ [])))
        rw [ins_ge (show x ≤ z by omega), ins_lt (show x < z by omega)]
        show (ins (x :: (ins rs z).1) y).1 = (ins (x :: rs) y).1 ∧ K3 ([r] ++ ((ins rs z).2.toList ++ ((ins (x :: (ins rs z).1) y).2.toList ++ []))) ([r] ++ ([z] ++ ((ins (x :: rs) y).2.toList ++ [])))
        rw [ins_ge hxy, ins_ge hxy]
        cases rs with
        | nil =>
          show x :: (ins [z] y).1 = [x, y] ∧ K3 ([r] ++ ([] ++ ((ins [z] y).2.toList ++ []))) ([r] ++ ([z] ++ ([] ++ [])))
          rw [ins_lt hyz]
          exact ⟨rfl, .same _⟩
        | cons s ss =>
          have hs : z < s := by
            have := h1 s List.mem_cons_self
            omega
          rw [ins_lt hs, ins_lt (show y < s by omega)]
          show x :: (ins (z :: ss) y).1 = x :: y :: ss ∧ K3 ([r] ++ ([s] ++ ((ins (z :: ss) y).2.toList ++ []))) ([r] ++ ([z] ++ ([s] ++ [])))
          rw [ins_lt hyz]
          exact ⟨rfl, .e1s hz (h1 s List.mem_cons_self)⟩
      · -- z passes r
        have hrz : r ≤ z := by omega
        rw [insW3, insW3, ins_lt hr, ins_ge hrz]
        show (ins (ins (x :: rs) z).1 y).1 = (ins (ins (r :: (ins rs z).1) x).1 y).1 ∧ K3 ([r] ++ ((ins (x :: rs) z).2.toList ++ ((ins (ins (x :: rs) z).1 y).2.toList ++ []))) ((ins rs z).2.toList ++ ((ins (r :: (ins rs z).1) x).2.toList ++ ((ins (ins (r :: (ins rs z).1) x).1 y).2.toList ++ [])))
        rw [ins_ge (show x ≤ z by omega), ins_lt hr]
        show (ins (x :: (ins rs z).1) y).1 = (ins (x :: (ins rs z).1) y).1 ∧ K3 ([r] ++ ((ins rs z).2.toList ++ ((ins (x :: (ins rs z).1) y).2.toList ++ []))) ((ins rs z).2.toList ++ ([r] ++ ((ins (x :: (ins rs z).1) y).2.toList ++ [])))
        rw [ins_ge hxy]
        refine ⟨rfl, ?_⟩
        show K3 (r :: ((ins rs z).2.toList ++ ((ins (ins rs z).1 y).2.toList ++ []))) ((ins rs z).2.toList ++ (r :: ((ins (ins rs z).1 y).2.toList ++ [])))
        obtain ⟨g, eg, hg⟩ := ins_below (ins_sorted (x := z) h2) ins_self hyz
        rw [eg]
        cases e1 : (ins rs z).2 with
        | none => exact .same _
        | some b =>
          obtain ⟨q1, q2⟩ := ins_some e1
          have hrg : r ≤ g := by
            rcases ins_mem (ins_some eg).2 with e | e
            · omega
            · exact h1 g e
          exact .e2 hrg (show g < b by omega)
    · rw [insW_pass (mem3 (P := fun v => r ≤ v) (by omega) (by omega) (by omega)), insW_pass (mem3 (P := fun v => r ≤ v) (by omega) (by omega) (by omega))]
      obtain ⟨q1, q2⟩ := row_e2 hxy hyz h2
      exact ⟨by rw [q1], q2⟩
theorem put_K3 : ∀ {T : List (List Int)} {w v : List Int}, (∀ R ∈ T, Sorted R) → K3 w v → w.foldl put T = v.foldl put T
  | [], w, v, _, h => by
    have f : ∀ {y x z : Int}, x < y → y ≤ z → put (put (put [] y) x) z = put (put (put [] y) z) x := fun {y x z} a b => by
      have q := putW_cons [y, x, z] [] []
      have q' := putW_cons [y, z, x] [] []
      have e := row_e1 a b (R := []) List.Pairwise.nil
      show put (put [[y]] x) z = put (put [[y]] z) x
      have p1 : put [[y]] x = [[x], [y]] := by
        show (match ins [y] x with
          | (R', none) => R' :: []
          | (R', some b) => R' :: put [] b) = _
        rw [ins_lt a]
        rfl
      have p2 : put [[y]] z = [[y, z]] := by
        show (match ins [y] z with
          | (R', none) => R' :: []
          | (R', some b) => R' :: put [] b) = _
        rw [ins_ge b]
        rfl
      have p3 : put [[x], [y]] z = [[x, z], [y]] := by
        show (match ins [x] z with
          | (R', none) => R' :: [[y]]
          | (R', some b) => R' :: put [[y]] b) = _
        rw [ins_ge (show x ≤ z by omega)]
        rfl
      have p4 : put [[y, z]] x = [[x, z], [y]] := by
        show (match ins [y, z] x with
          | (R', none) => R' :: []
          | (R', some b) => R' :: put [] b) = _
        rw [ins_lt a]
        rfl
      rw [p1, p2, p3, p4]
    have g : ∀ {x y z : Int}, x ≤ y → y < z → put (put (put [] x) z) y = put (put (put [] z) x) y := fun {x y z} a b => by
      show put (put [[x]] z) y = put (put [[z]] x) y
      have p1 : put [[x]] z = [[x, z]] := by
        show (match ins [x] z with
          | (R', none) => R' :: []
          | (R', some b) => R' :: put [] b) = _
        rw [ins_ge (show x ≤ z by omega)]
        rfl
      have p2 : put [[z]] x = [[x], [z]] := by
        show (match ins [z] x with
          | (R', none) => R' :: []
          | (R', some b) => R' :: put [] b) = _
        rw [ins_lt (show x < z by omega)]
        rfl
      have p3 : put [[x, z]] y = [[x, y], [z]] := by
        show (match ins [x, z] y with
          | (R', none) => R' :: []
          | (R', some b) => R' :: put [] b) = _
        rw [ins_ge a, ins_lt b]
        rfl
      have p4 : put [[x], [z]] y = [[x, y], [z]] := by
        show (match ins [x] y with
          | (R', none) => R' :: [[z]]
          | (R', some b) => R' :: put [[z]] b) = _
        rw [ins_ge a]
        rfl
      rw [p1, p2, p3, p4]
    cases h with
    | same => rfl
    | e1 a b => exact f a b
    | e2 a b => exact g a b
    | e1s a b => exact (f a b).symm
    | e2s a b => exact (g a b).symm
  | R :: T, w, v, hT, h => by
    have hR := hT R List.mem_cons_self
    have hT' : ∀ R ∈ T, Sorted R := fun R m => hT R (List.mem_cons_of_mem _ m)
    rw [putW_cons, putW_cons]
    cases h with
    | same => rfl
    | e1 a b =>
      obtain ⟨q1, q2⟩ := row_e1 a b hR
      rw [q1, put_K3 hT' q2]
    | e2 a b =>
      obtain ⟨q1, q2⟩ := row_e2 a b hR
      rw [q1, put_K3 hT' q2]
    | e1s a b =>
      obtain ⟨q1, q2⟩ := row_e1 a b hR
      rw [q1, put_K3 hT' q2]
    | e2s a b =>
      obtain ⟨q1, q2⟩ := row_e2 a b hR
      rw [q1, put_K3 hT' q2]
theorem put_sorted : ∀ {T : List (List Int)} {x : Int}, (∀ R ∈ T, Sorted R) → ∀ R ∈ put T x, Sorted R
  | [], x, _, R, h => by
    rw [List.mem_singleton.mp h]
    exact List.pairwise_singleton _ _
  | Q :: T, x, hT, R, h => by
    have hQ := ins_sorted (x := x) (hT Q List.mem_cons_self)
    have hT' : ∀ R ∈ T, Sorted R := fun R m => hT R (List.mem_cons_of_mem _ m)
    have h' : R ∈ (match ins Q x with
      | (R', none) => R' :: T
      | (R', some b) => R' :: put T b) := h
    revert h' hQ
    cases ins Q x with
    | mk R' o =>
      cases o with
      | none =>
        intro hQ h'
        rcases List.mem_cons.mp h' with rfl | m
        · exact hQ
        · exact hT' R m
      | some b =>
        intro hQ h'
        rcases List.mem_cons.mp h' with rfl | m
        · exact hQ
        · exact put_sorted hT' R m
theorem putW_sorted : ∀ {w : List Int} {T : List (List Int)}, (∀ R ∈ T, Sorted R) → ∀ R ∈ w.foldl put T, Sorted R
  | [], T, h => h
  | x :: w, T, h => putW_sorted (w := w) (put_sorted h)
theorem rowsOf_sorted (w : List Int) : ∀ R ∈ rowsOf w, Sorted R := putW_sorted (fun R h => by cases h)
theorem three_K3 {u v z a b c : Int} (h : three u v z = some (a, b, c)) : K3 [u, v, z] [a, b, c] := by
  unfold three at h
  split at h
  · rename_i h1
    cases h
    rcases h1 with ⟨p, q⟩ | ⟨p, q⟩
    · exact .e1 p q
    · exact .e1s p q
  · split at h
    · rename_i h2
      cases h
      rcases h2 with ⟨p, q⟩ | ⟨p, q⟩
      · exact .e2 p q
      · exact .e2s p q
    · cases h
/-- a move keeps the table -/
theorem after_rows {w x : List Int} {k : Nat} (h : after w k = some x) : rowsOf w = rowsOf x := by
  obtain ⟨p, u, v, z, a, b, c, s, rfl, rfl, rfl, e⟩ := after_parts h
  have k3 := put_K3 (T := p.foldl put []) (putW_sorted (fun R h => by cases h)) (three_K3 e)
  show (p ++ ([u, v, z] ++ s)).foldl put [] = (p ++ ([a, b, c] ++ s)).foldl put []
  rw [List.foldl_append, List.foldl_append, List.foldl_append, List.foldl_append, k3]
theorem path_rows : ∀ {ks : List Nat} {w x : List Int}, path w ks = some x → rowsOf w = rowsOf x
  | [], w, x, h => by
    cases h
    rfl
  | k :: ks, w, x, h => by
    obtain ⟨v, h1, h2⟩ := path_uncons h
    rw [after_rows h1, path_rows h2]

/-! ### steps down to the word of the table -/
/-- lo + n - 1 down to lo -/
def downFrom (lo : Nat) : Nat → List Nat
  | 0 => []
  | n + 1 => (lo + n) :: downFrom lo n
theorem downFrom_succ (lo : Nat) : ∀ n : Nat, downFrom lo (n + 1) = downFrom (lo + 1) n ++ [lo]
  | 0 => rfl
  | n + 1 => by
    show (lo + (n + 1)) :: downFrom lo (n + 1) = ((lo + 1 + n) :: downFrom (lo + 1) n) ++ [lo]
    rw [downFrom_succ lo n]
    show _ :: _ = _ :: _
    congr 1
    omega
theorem downFrom_map (lo k : Nat) : ∀ n : Nat, (downFrom lo n).map (k + ·) = downFrom (k + lo) n
  | 0 => rfl
  | n + 1 => by
    show (k + (lo + n)) :: (downFrom lo n).map (k + ·) = (k + lo + n) :: downFrom (k + lo) n
    rw [downFrom_map lo k n]
    congr 1
    omega
def stepsOf : List (List Int) → Int → List Nat
  | [], _ => []
  | R :: Rs, x => match (ins R x).2 with
    | none => []
    | some b => downFrom (wordOf Rs).length (R.length - 1) ++ stepsOf Rs b
theorem row_steps : ∀ {R : List Int} {x b : Int}, Sorted R → (ins R x).2 = some b → path (R ++ [x]) (downFrom 0 (R.length - 1)) = some (b :: (ins R x).1)
  | [], x, b, _, h => by cases h
  | [r], x, b, hs, h => by
    by_cases hr : x < r
    · rw [ins_lt hr] at h ⊢
      cases h
      rfl
    · rw [ins_ge (by omega)] at h
      cases h
  | r :: s :: ss, x, b, hs, h => by
    obtain ⟨h1, h2⟩ := List.pairwise_cons.mp hs
    have hrs := h1 s List.mem_cons_self
    have e : downFrom 0 ((r :: s :: ss).length - 1) = (downFrom 0 ((s :: ss).length - 1)).map (1 + ·) ++ [0] := by
      rw [downFrom_map]
      show downFrom 0 (ss.length + 1) = _
      rw [downFrom_succ]
      rfl
    rw [e]
    have lift : ∀ {y : List Int} , path ((s :: ss) ++ [x]) (downFrom 0 ((s :: ss).length - 1)) = some y → path (r :: s :: ss ++ [x]) ((downFrom 0 ((s :: ss).length - 1)).map (1 + ·)) = some (r :: y) := fun hy => path_left [r] hy
    by_cases hr : x < r
    · have hsx : x < s := by omega
      rw [ins_lt hr] at h ⊢
      cases h
      have ih := row_steps (x := x) (b := s) h2 (by rw [ins_lt hsx])
      rw [ins_lt hsx] at ih
      refine path_trans (lift ih) (path_cons ?_ rfl)
      have t : three r s x = some (r, x, s) := if_pos (.inr ⟨hr, hrs⟩)
      exact after_make t [] ss
    · rw [ins_ge (by omega)] at h ⊢
      have hb := (ins_some h).1
      have ih := row_steps (x := x) (b := b) h2 h
      refine path_trans (lift ih) (path_cons ?_ rfl)
      have ht : ∃ t ts, (ins (s :: ss) x).1 = t :: ts ∧ r ≤ t ∧ t ≤ x := by
        by_cases hsx : x < s
        · exact ⟨x, ss, by rw [ins_lt hsx], by omega, Int.le_refl _⟩
        · exact ⟨s, (ins ss x).1, by rw [ins_ge (by omega)], hrs, by omega⟩
      obtain ⟨t, ts, et, t1, t2⟩ := ht
      rw [et]
      have th : three r b t = some (b, r, t) := by
        unfold three
        rw [if_neg (by omega), if_pos (by omega)]
      exact after_make th [] ts
theorem put_steps : ∀ {T : List (List Int)} {x : Int}, (∀ R ∈ T, Sorted R) → path (wordOf T ++ [x]) (stepsOf T x) = some (wordOf (put T x))
  | [], x, _ => rfl
  | R :: T, x, hT => by
    have hR := hT R List.mem_cons_self
    have hT' : ∀ R ∈ T, Sorted R := fun R m => hT R (List.mem_cons_of_mem _ m)
    have rs := fun b => row_steps (x := x) (b := b) hR
    show path (wordOf T ++ R ++ [x]) (match (ins R x).2 with
      | none => []
      | some b => downFrom (wordOf T).length (R.length - 1) ++ stepsOf T b) = some (wordOf (match ins R x with
      | (R', none) => R' :: T
      | (R', some b) => R' :: put T b))
    have no := ins_none (R := R) (x := x)
    revert rs no
    cases ins R x with
    | mk R' o =>
      cases o with
      | none =>
        intro rs no
        obtain ⟨e, _⟩ := no rfl
        show some (wordOf T ++ R ++ [x]) = some (wordOf T ++ R')
        have e' : R' = R ++ [x] := e
        rw [e', List.append_assoc]
      | some b =>
        intro rs no
        have p1 := path_left (wordOf T) (rs b rfl)
        rw [downFrom_map] at p1
        show path (wordOf T ++ R ++ [x]) (downFrom (wordOf T).length (R.length - 1) ++ stepsOf T b) = some (wordOf (put T b) ++ R')
        rw [List.append_assoc]
        refine path_trans p1 ?_
        have p2 := path_right R' (put_steps (x := b) hT')
        rw [List.append_assoc] at p2
        exact p2
def stepsDown (w : List Int) : List Nat := (List.range w.length).flatMap fun c => stepsOf (rowsOf (w.take c)) (w.getD c 0)
theorem rowsOf_concat (w : List Int) (x : Int) : rowsOf (w ++ [x]) = put (rowsOf w) x := by
  unfold rowsOf
  rw [List.foldl_append]
  rfl
theorem stepsDown_upto (w : List Int) : ∀ n : Nat, n ≤ w.length → path w ((List.range n).flatMap fun c => stepsOf (rowsOf (w.take c)) (w.getD c 0)) = some (wordOf (rowsOf (w.take n)) ++ w.drop n)
  | 0, _ => rfl
  | n + 1, h => by
    have ih := stepsDown_upto w n (by omega)
    rw [List.range_succ, List.flatMap_append]
    refine path_trans ih ?_
    have hn : n < w.length := by omega
    have e1 : w.drop n = w[n] :: w.drop (n + 1) := List.drop_eq_getElem_cons hn
    have e2 : w.take (n + 1) = w.take n ++ [w[n]] := (List.take_append_getElem hn).symm
    have e3 : w.getD n 0 = w[n] := by
      rw [List.getD_eq_getElem?_getD, List.getElem?_eq_getElem hn]
      rfl
    rw [e1, e2, rowsOf_concat]
    have p := path_right (w.drop (n + 1)) (put_steps (x := w[n]) (rowsOf_sorted (w.take n)))
    rw [List.append_assoc] at p
    rw [List.flatMap_cons, List.flatMap_nil, List.append_nil, e3]
    exact p
theorem stepsDown_path (w : List Int) : path w (stepsDown w) = some (wordOf (rowsOf w)) := by
  have h := stepsDown_upto w w.length (Nat.le_refl _)
  rw [List.take_length, List.drop_length, List.append_nil] at h
  exact h
/-- the chain between two words of one table -/
def between (w v : List Int) : List Nat := stepsDown w ++ (stepsDown v).reverse
theorem between_path {w v : List Int} (h : rowsOf w = rowsOf v) : path w (between w v) = some v := by
  refine path_trans (stepsDown_path w) ?_
  rw [h]
  exact path_back (stepsDown_path v)
theorem alike_iff {w v : List Int} : rowsOf w = rowsOf v ↔ ∃ ks, path w ks = some v :=
  ⟨fun h => ⟨_, between_path h⟩, fun ⟨_, h⟩ => path_rows h⟩
theorem alike_perm {w v : List Int} (h : rowsOf w = rowsOf v) : v.Perm w := path_perm (between_path h)

/-! ### a letter more -/
theorem alike_behind {w v : List Int} (h : rowsOf w = rowsOf v) (x : Int) : rowsOf (w ++ [x]) = rowsOf (v ++ [x]) := by
  rw [rowsOf_concat, rowsOf_concat, h]
theorem alike_ahead {w v : List Int} (h : rowsOf w = rowsOf v) (x : Int) : rowsOf (x :: w) = rowsOf (x :: v) :=
  path_rows (path_left [x] (between_path h))

/-! ### words turned -/
def turn (m : Int) (w : List Int) : List Int := w.reverse.map fun x => m + 1 - x
theorem turn_turn (m : Int) (w : List Int) : turn m (turn m w) = w := by
  unfold turn
  rw [← List.map_reverse, List.reverse_reverse, List.map_map]
  have : ((fun x => m + 1 - x) ∘ fun x => m + 1 - x) = (fun x : Int => x) := by
    funext x
    show m + 1 - (m + 1 - x) = x
    omega
  rw [this]
  exact List.map_id' w
theorem three_turn {u v z a b c m : Int} (h : three u v z = some (a, b, c)) : three (m + 1 - z) (m + 1 - v) (m + 1 - u) = some (m + 1 - c, m + 1 - b, m + 1 - a) := by
  unfold three at h ⊢
  split at h
  · rename_i h1
    cases h
    rw [if_neg (by omega), if_pos (by omega)]
  · split at h
    · rename_i h1 h2
      cases h
      rw [if_pos (by omega)]
    · cases h
theorem turn_parts (m u v z : Int) (p s : List Int) : turn m (p ++ u :: v :: z :: s) = turn m s ++ (m + 1 - z) :: (m + 1 - v) :: (m + 1 - u) :: turn m p := by
  unfold turn
  simp [List.reverse_append, List.append_assoc]
theorem after_turn {w x : List Int} {k : Nat} (m : Int) (h : after w k = some x) : ∃ k', after (turn m w) k' = some (turn m x) := by
  obtain ⟨p, u, v, z, a, b, c, s, rfl, rfl, rfl, e⟩ := after_parts h
  refine ⟨(turn m s).length, ?_⟩
  rw [turn_parts, turn_parts]
  exact after_make (three_turn e) (turn m s) (turn m p)
theorem alike_turn1 {w v : List Int} (m : Int) (h : rowsOf w = rowsOf v) : rowsOf (turn m w) = rowsOf (turn m v) :=
  path_keeps (P := fun y => rowsOf (turn m w) = rowsOf (turn m y)) (fun a b k e q => by
    obtain ⟨k', e'⟩ := after_turn m e
    rw [q, after_rows e']) (between_path h) rfl
theorem alike_turn {w v : List Int} (m : Int) : rowsOf (turn m w) = rowsOf (turn m v) ↔ rowsOf w = rowsOf v :=
  ⟨fun h => by
    have q := alike_turn1 m h
    rw [turn_turn, turn_turn] at q
    exact q, alike_turn1 m⟩

/-! ### the standing -/
def cLe (x : Int) (w : List Int) : Nat := w.countP fun y => decide (y ≤ x)
def cLt (x : Int) (w : List Int) : Nat := w.countP fun y => decide (y < x)
/-- the standing of w behind the letters pre -/
def stdAux : List Int → List Int → List Int
  | _, [] => []
  | pre, x :: r => ((1 + cLe x pre + cLt x r : Nat) : Int) :: stdAux (x :: pre) r
def std (w : List Int) : List Int := stdAux [] w
theorem cLe_cons (x a : Int) (w : List Int) : cLe x (a :: w) = cLe x w + if a ≤ x then 1 else 0 := by
  unfold cLe
  rw [List.countP_cons]
  by_cases h : a ≤ x
  · rw [if_pos (decide_eq_true h), if_pos h]
  · rw [if_neg (by simpa using h), if_neg h]
theorem cLt_cons (x a : Int) (w : List Int) : cLt x (a :: w) = cLt x w + if a < x then 1 else 0 := by
  unfold cLt
  rw [List.countP_cons]
  by_cases h : a < x
  · rw [if_pos (decide_eq_true h), if_pos h]
  · rw [if_neg (by simpa using h), if_neg h]
theorem cLe_perm {w v : List Int} (x : Int) (h : w.Perm v) : cLe x w = cLe x v := h.countP_eq _
theorem cLt_perm {w v : List Int} (x : Int) (h : w.Perm v) : cLt x w = cLt x v := h.countP_eq _
theorem cLe_mono {x y : Int} (h : x ≤ y) (w : List Int) : cLe x w ≤ cLe y w :=
  List.countP_mono_left fun z _ hz => decide_eq_true (by have := of_decide_eq_true hz; omega)
theorem cLt_mono {x y : Int} (h : x ≤ y) (w : List Int) : cLt x w ≤ cLt y w :=
  List.countP_mono_left fun z _ hz => decide_eq_true (by have := of_decide_eq_true hz; omega)
theorem cLe_cLt {x y : Int} (h : x < y) (w : List Int) : cLe x w ≤ cLt y w :=
  List.countP_mono_left fun z _ hz => decide_eq_true (by have := of_decide_eq_true hz; omega)
theorem stdAux_perm : ∀ {w p q : List Int}, p.Perm q → stdAux p w = stdAux q w
  | [], p, q, _ => rfl
  | x :: r, p, q, h => by
    show _ :: _ = _ :: _
    rw [cLe_perm x h, stdAux_perm (w := r) (h.cons x)]
theorem stdAux_len : ∀ (w p : List Int), (stdAux p w).length = w.length
  | [], p => rfl
  | x :: r, p => by
    show (stdAux (x :: p) r).length + 1 = r.length + 1
    rw [stdAux_len r]
/-- two neighbours that differ, exchanged -/
theorem stdAux_swap {a b : Int} (h : a ≠ b) (pre s : List Int) : ∃ a' b', stdAux pre (a :: b :: s) = a' :: b' :: stdAux (b :: a :: pre) s ∧ stdAux pre (b :: a :: s) = b' :: a' :: stdAux (b :: a :: pre) s := by
  refine ⟨_, _, rfl, ?_⟩
  show ((1 + cLe b pre + cLt b (a :: s) : Nat) : Int) :: ((1 + cLe a (b :: pre) + cLt a s : Nat) : Int) :: stdAux (a :: b :: pre) s = _
  rw [stdAux_perm (w := s) (List.Perm.swap b a pre)]
  rw [cLt_cons, cLe_cons, cLt_cons, cLe_cons]
  have e1 : (if b ≤ a then 1 else 0 : Nat) = if b < a then 1 else 0 := by
    by_cases q : b < a
    · rw [if_pos q, if_pos (by omega)]
    · rw [if_neg q, if_neg (by omega)]
  have e2 : (if a ≤ b then 1 else 0 : Nat) = if a < b then 1 else 0 := by
    by_cases q : a < b
    · rw [if_pos q, if_pos (by omega)]
    · rw [if_neg q, if_neg (by omega)]
  rw [e1, e2]
  congr 1
  · omega
  · congr 1
    omega
/-- how the standing's numbers of three neighbours stand to one another -/
theorem std_three (u v z : Int) (pre s : List Int) : ∃ u' v' z', stdAux pre (u :: v :: z :: s) = u' :: v' :: z' :: stdAux (z :: v :: u :: pre) s ∧
    (u' < v' ↔ u ≤ v) ∧ (v' < u' ↔ v < u) ∧ (u' < z' ↔ u ≤ z) ∧ (z' < u' ↔ z < u) ∧ (v' < z' ↔ v ≤ z) ∧ (z' < v' ↔ z < v) := by
  refine ⟨_, _, _, rfl, ?_⟩
  simp only [cLe_cons, cLt_cons]
  have two : ∀ {x y : Int} , x ≤ y → cLe x pre ≤ cLe y pre ∧ cLt x s ≤ cLt y s := fun h => ⟨cLe_mono h _, cLt_mono h _⟩
  have a1 := @two u v
  have a2 := @two v u
  have a3 := @two u z
  have a4 := @two z u
  have a5 := @two v z
  have a6 := @two z v
  by_cases h1 : u ≤ v <;> by_cases h2 : u ≤ z <;> by_cases h3 : v ≤ z <;>
    (by_cases g1 : v ≤ u <;> by_cases g2 : z ≤ u <;> by_cases g3 : z ≤ v <;>
      (try (exfalso; omega)) <;>
      (have b1 : (v < u) ↔ ¬ (u ≤ v) := by omega
       have b2 : (z < u) ↔ ¬ (u ≤ z) := by omega
       have b3 : (z < v) ↔ ¬ (v ≤ z) := by omega
       have b4 : (u < v) ↔ ¬ (v ≤ u) := by omega
       have b5 : (u < z) ↔ ¬ (z ≤ u) := by omega
       have b6 : (v < z) ↔ ¬ (z ≤ v) := by omega
       simp only [b1, b2, b3, b4, b5, b6, h1, h2, h3, g1, g2, g3, not_true_eq_false, not_false_eq_true, if_true, if_false, iff_true, iff_false, forall_const, true_implies, false_implies] at a1 a2 a3 a4 a5 a6 ⊢
       omega))
theorem after_std : ∀ {k : Nat} {w x : List Int}, after w k = some x → ∀ pre, after (stdAux pre w) k = some (stdAux pre x)
  | 0, [], x, h, pre => by cases h
  | 0, [_], x, h, pre => by cases h
  | 0, [_, _], x, h, pre => by cases h
  | 0, u :: v :: z :: r, x, h, pre => by
    obtain ⟨a, b, c, e, rfl⟩ := after_zero h
    obtain ⟨u', v', z', e1, i1, i2, i3, i4, i5, i6⟩ := std_three u v z pre r
    unfold three at e
    split at e
    · rename_i hc
      cases e
      have hvz : v ≠ z := by omega
      obtain ⟨p, q, f1, f2⟩ := stdAux_swap hvz (u :: pre) r
      have g1 : stdAux pre (u :: v :: z :: r) = ((1 + cLe u pre + cLt u (v :: z :: r) : Nat) : Int) :: stdAux (u :: pre) (v :: z :: r) := rfl
      have g2 : stdAux pre (u :: z :: v :: r) = ((1 + cLe u pre + cLt u (z :: v :: r) : Nat) : Int) :: stdAux (u :: pre) (z :: v :: r) := rfl
      rw [f1] at g1
      rw [f2, cLt_perm u (List.Perm.swap v z r)] at g2
      rw [e1] at g1
      injection g1 with j1 g1
      injection g1 with j2 g1
      injection g1 with j3 g1
      rw [e1, g2, ← j1, ← j2, ← j3]
      have t : three u' v' z' = some (u', z', v') := if_pos (by omega)
      exact after_make t [] _
    · split at e
      · rename_i hn hc
        cases e
        have huv : u ≠ v := by omega
        obtain ⟨p, q, f1, f2⟩ := stdAux_swap huv pre (z :: r)
        have g1 := f1
        rw [e1] at g1
        injection g1 with j1 g1
        injection g1 with j2 g1
        rw [e1, f2, ← j1, ← j2, ← g1]
        have t : three u' v' z' = some (v', u', z') := by
          unfold three
          rw [if_neg (by omega), if_pos (by omega)]
        exact after_make t [] _
      · cases e
  | k + 1, [], x, h, pre => by cases h
  | k + 1, d :: r, x, h, pre => by
    obtain ⟨y, hy, rfl⟩ := after_succ h
    have ih := after_std hy (d :: pre)
    show after (_ :: stdAux (d :: pre) r) (k + 1) = some (((1 + cLe d pre + cLt d y : Nat) : Int) :: stdAux (d :: pre) y)
    simp only [after, ih, Option.map_some]
    rw [cLt_perm d (after_perm hy)]
theorem std_after : ∀ {k : Nat} {w s pre : List Int}, after (stdAux pre w) k = some s → ∃ x, after w k = some x ∧ s = stdAux pre x
  | 0, [], s, pre, h => by cases h
  | 0, [_], s, pre, h => by cases h
  | 0, [_, _], s, pre, h => by cases h
  | 0, u :: v :: z :: r, s, pre, h => by
    obtain ⟨u', v', z', e1, i1, i2, i3, i4, i5, i6⟩ := std_three u v z pre r
    have h0 := h
    rw [e1] at h
    obtain ⟨a, b, c, e, rfl⟩ := after_zero h
    have : ∃ x, after (u :: v :: z :: r) 0 = some x := by
      unfold three at e
      split at e
      · rename_i hc
        have t : three u v z = some (u, z, v) := if_pos (by omega)
        exact ⟨_, after_make t [] r⟩
      · split at e
        · rename_i hn hc
          have t : three u v z = some (v, u, z) := by
            unfold three
            rw [if_neg (by omega), if_pos (by omega)]
          exact ⟨_, after_make t [] r⟩
        · cases e
    obtain ⟨x, hx⟩ := this
    have q := after_std hx pre
    rw [h0] at q
    exact ⟨x, hx, Option.some.inj q⟩
  | k + 1, [], s, pre, h => by cases h
  | k + 1, d :: r, s, pre, h => by
    obtain ⟨y, hy, rfl⟩ := after_succ (show after (((1 + cLe d pre + cLt d r : Nat) : Int) :: stdAux (d :: pre) r) (k + 1) = some s from h)
    obtain ⟨x, hx, rfl⟩ := std_after hy
    refine ⟨d :: x, ?_, ?_⟩
    · simp only [after, hx, Option.map_some]
    · show _ = ((1 + cLe d pre + cLt d x : Nat) : Int) :: stdAux (d :: pre) x
      rw [cLt_perm d (after_perm hx)]
theorem path_std : ∀ {ks : List Nat} {w x : List Int}, path w ks = some x → path (std w) ks = some (std x)
  | [], w, x, h => by
    cases h
    rfl
  | k :: ks, w, x, h => by
    obtain ⟨v, h1, h2⟩ := path_uncons h
    exact path_cons (after_std h1 []) (path_std h2)
theorem std_path : ∀ {ks : List Nat} {w s : List Int}, path (std w) ks = some s → ∃ x, path w ks = some x ∧ s = std x
  | [], w, s, h => by
    cases h
    exact ⟨w, rfl, rfl⟩
  | k :: ks, w, s, h => by
    obtain ⟨v, h1, h2⟩ := path_uncons h
    obtain ⟨y, hy, rfl⟩ := std_after h1
    obtain ⟨x, hx, rfl⟩ := std_path (w := y) h2
    exact ⟨x, path_cons hy hx, rfl⟩
/-- the standing and the amounts tell the word -/
theorem stdAux_inj : ∀ {w v p q : List Int}, (∀ z, cLe z p + cLe z w = cLe z q + cLe z v) → (∀ z, cLt z p + cLt z w = cLt z q + cLt z v) → stdAux p w = stdAux q v → w = v
  | [], [], p, q, _, _, _ => rfl
  | [], _ :: _, p, q, _, _, h => by cases h
  | _ :: _, [], p, q, _, _, h => by cases h
  | x :: r, y :: s, p, q, h1, h2, h => by
    have h' : ((1 + cLe x p + cLt x r : Nat) : Int) :: stdAux (x :: p) r = ((1 + cLe y q + cLt y s : Nat) : Int) :: stdAux (y :: q) s := h
    injection h' with e1 e2
    have e1 : 1 + cLe x p + cLt x r = 1 + cLe y q + cLt y s := Int.ofNat.inj e1
    have a1 := h1 x
    have a2 := h1 y
    have b1 := h2 x
    have b2 := h2 y
    rw [cLe_cons, cLe_cons] at a1 a2
    rw [cLt_cons, cLt_cons] at b1 b2
    have m1 := fun (h : x < y) => (⟨cLe_cLt h p, cLe_cLt h r, cLe_cLt h q, cLe_cLt h s⟩ : _ ∧ _ ∧ _ ∧ _)
    have m2 := fun (h : y < x) => (⟨cLe_cLt h p, cLe_cLt h r, cLe_cLt h q, cLe_cLt h s⟩ : _ ∧ _ ∧ _ ∧ _)
    have le : ∀ (z : Int) (l : List Int), cLt z l ≤ cLe z l := fun z l => List.countP_mono_left fun y _ hy => decide_eq_true (by have := of_decide_eq_true hy; omega)
    have l1 := le x p
    have l2 := le x r
    have l3 := le y q
    have l4 := le y s
    have l5 := le y p
    have l6 := le y r
    have l7 := le x q
    have l8 := le x s
    have exy : x = y := by
      rcases Int.lt_trichotomy x y with q1 | q1 | q1
      · exfalso
        obtain ⟨k1, k2, k3, k4⟩ := m1 q1
        rw [if_pos (Int.le_refl x), if_neg (show ¬ y ≤ x by omega)] at a1
        rw [if_pos q1, if_neg (Int.lt_irrefl y)] at b2
        omega
      · exact q1
      · exfalso
        obtain ⟨k1, k2, k3, k4⟩ := m2 q1
        rw [if_neg (show ¬ x ≤ y by omega), if_pos (Int.le_refl y)] at a2
        rw [if_neg (Int.lt_irrefl x), if_pos q1] at b1
        omega
    subst exy
    have t1 : ∀ z, cLe z (x :: p) + cLe z r = cLe z (x :: q) + cLe z s := fun z => by
      have := h1 z
      rw [cLe_cons, cLe_cons] at this ⊢
      omega
    have t2 : ∀ z, cLt z (x :: p) + cLt z r = cLt z (x :: q) + cLt z s := fun z => by
      have := h2 z
      rw [cLt_cons, cLt_cons] at this ⊢
      omega
    rw [stdAux_inj t1 t2 e2]
theorem std_inj {w v : List Int} (hp : w.Perm v) (h : std w = std v) : w = v :=
  stdAux_inj (p := []) (q := []) (fun z => by rw [cLe_perm z hp]) (fun z => by rw [cLt_perm z hp]) h
/-- THE STANDING: words are alike exactly if they have the same letters and their standings are alike -/
theorem alike_std {w v : List Int} : (w.Perm v ∧ rowsOf (std w) = rowsOf (std v)) ↔ rowsOf w = rowsOf v := by
  constructor
  · rintro ⟨hp, h⟩
    obtain ⟨x, hx, e⟩ := std_path (between_path h)
    have : v = x := std_inj (hp.symm.trans (path_perm hx).symm) e
    subst this
    exact path_rows hx
  · intro h
    exact ⟨(alike_perm h).symm, path_rows (path_std (between_path h))⟩

/-! ### amounts -/
def top : List Int → Int
  | [] => 0
  | x :: r => max x (top r)
theorem top_ge : ∀ {w : List Int} {x : Int}, x ∈ w → x ≤ top w
  | y :: r, x, h => by
    show x ≤ max y (top r)
    rcases List.mem_cons.mp h with rfl | h
    · exact Int.le_max_left _ _
    · exact Int.le_trans (top_ge h) (Int.le_max_right _ _)
theorem top_nonneg : ∀ (w : List Int), 0 ≤ top w
  | [] => Int.le_refl _
  | x :: r => Int.le_trans (top_nonneg r) (Int.le_max_right _ _)
theorem top_mem : ∀ (w : List Int), top w = 0 ∨ top w ∈ w
  | [] => .inl rfl
  | x :: r => by
    show max x (top r) = 0 ∨ max x (top r) ∈ x :: r
    by_cases h : x ≤ top r
    · rw [Int.max_eq_right h]
      rcases top_mem r with e | e
      · exact .inl e
      · exact .inr (List.mem_cons_of_mem _ e)
    · rw [Int.max_eq_left (by omega)]
      exact .inr List.mem_cons_self
/-- how often each of 1 to the greatest letter is there -/
def amts (w : List Int) : List Int := (List.range (top w).toNat).map fun (i : Nat) => ((w.countP fun y => decide (y = 1 + (i : Int)) : Nat) : Int)
theorem amts_perm {w v : List Int} (h : w.Perm v) : amts w = amts v := by
  have t : top w = top v := by
    have a := top_nonneg w
    have b := top_nonneg v
    have c : top w ≤ top v := by
      rcases top_mem w with e | e
      · omega
      · exact top_ge (h.mem_iff.mp e)
    have d : top v ≤ top w := by
      rcases top_mem v with e | e
      · omega
      · exact top_ge (h.mem_iff.mpr e)
    omega
  unfold amts
  rw [t]
  congr 1
  funext i
  rw [h.countP_eq]
theorem perm_amts {w v : List Int} (hw : ∀ x ∈ w, 1 ≤ x) (hv : ∀ x ∈ v, 1 ≤ x) (h : amts w = amts v) : w.Perm v := by
  have hl : (top w).toNat = (top v).toNat := by
    have := congrArg List.length h
    unfold amts at this
    rwa [List.length_map, List.length_map, List.length_range, List.length_range] at this
  have t : top w = top v := by
    have a := top_nonneg w
    have b := top_nonneg v
    omega
  rw [List.perm_iff_count]
  intro a
  have cnt : ∀ l : List Int, l.count a = l.countP fun y => decide (y = a) := fun l => by
    unfold List.count
    congr 1
  rw [cnt, cnt]
  by_cases ha : 1 ≤ a ∧ a ≤ top w
  · obtain ⟨i, hi⟩ : ∃ i : Nat, a = 1 + (i : Int) := ⟨(a - 1).toNat, by omega⟩
    have hi' : i < (top w).toNat := by omega
    have e1 : (amts w)[i]? = some ((w.countP fun y => decide (y = 1 + (i : Int)) : Nat) : Int) := by
      unfold amts
      rw [List.getElem?_map, List.getElem?_range hi']
      rfl
    have e2 : (amts v)[i]? = some ((v.countP fun y => decide (y = 1 + (i : Int)) : Nat) : Int) := by
      unfold amts
      rw [List.getElem?_map, List.getElem?_range (by omega)]
      rfl
    rw [h, e2] at e1
    rw [hi]
    exact (Int.ofNat.inj (Option.some.inj e1)).symm
  · have z : ∀ l : List Int, (∀ x ∈ l, 1 ≤ x) → top l = top w → l.countP (fun y => decide (y = a)) = 0 := fun l hl ht => by
      rw [List.countP_eq_zero]
      intro x hx q
      have := of_decide_eq_true q
      have := hl x hx
      have := top_ge hx
      omega
    rw [z w hw rfl, z v hv t.symm]
theorem amts_iff {w v : List Int} (hw : ∀ x ∈ w, 1 ≤ x) (hv : ∀ x ∈ v, 1 ≤ x) : amts w = amts v ↔ w.Perm v := ⟨perm_amts hw hv, amts_perm⟩
end WS

set_option maxRecDepth 100000
set_option maxHeartbeats 4000000
/-! A layer of my own over HandS: a frame told by data. Slots hold data (tuples all the way down), or a list of one's own (new since the entry). -/
namespace WL
open PySem PySem.Spec PyProof.Rows L2

/-! ### data through tuples alone: no store can change it -/
mutual
inductive Tp (K : PySem.W.Frag) (H : Hp) : V → PyData → Prop
  | non : Tp K H .non .none
  | bl (b : Bool) : Tp K H (.bl b) (.bool b)
  | int (i : Int) : Tp K H (.int i) (.int i)
  | tup {a : Addr} {xs : List V} {ds : List PyData} : SqT K H a xs → TpAll K H xs ds → Tp K H (.ref a) (.tuple ds)
inductive TpAll (K : PySem.W.Frag) (H : Hp) : List V → List PyData → Prop
  | nil : TpAll K H [] []
  | cons {v : V} {vs : List V} {d : PyData} {ds : List PyData} : Tp K H v d → TpAll K H vs ds → TpAll K H (v :: vs) (d :: ds)
end
/-- tuples stay -/
def Te (H H' : Hp) : Prop := ∀ a xs, Rd H a (.tup xs) → Rd H' a (.tup xs)
theorem Te.refl (H : Hp) : Te H H := fun _ _ h => h
theorem Te.trans {H H1 H2 : Hp} (a : Te H H1) (b : Te H1 H2) : Te H H2 := fun c xs h => b c xs (a c xs h)
theorem Te.t {K : PySem.W.Frag} {H H' : Hp} {a : Addr} {xs : List V} (e : Te H H') (h : SqT K H a xs) : SqT K H' a xs := by
  rcases h with h | h
  · exact .inl (e a xs h)
  · exact .inr h
mutual
theorem Tp.te {K : PySem.W.Frag} {H H' : Hp} (e : Te H H') : ∀ (d : PyData) (v : V), Tp K H v d → Tp K H' v d
  | .none, _, h => by
    cases h
    exact .non
  | .bool b, _, h => by
    cases h
    exact .bl b
  | .int i, _, h => by
    cases h
    exact .int i
  | .str x, _, h => by cases h
  | .list ds, _, h => by cases h
  | .tuple ds, _, h => by
    cases h with
    | tup h1 h2 => exact .tup (e.t h1) (TpAll.te e ds _ h2)
  | .dict kvs, _, h => by cases h
theorem TpAll.te {K : PySem.W.Frag} {H H' : Hp} (e : Te H H') : ∀ (ds : List PyData) (vs : List V), TpAll K H vs ds → TpAll K H' vs ds
  | [], _, h => by
    cases h
    exact .nil
  | d :: ds, _, h => by
    cases h with
    | cons h1 h2 => exact .cons (Tp.te e d _ h1) (TpAll.te e ds _ h2)
end
mutual
theorem Tp.dp {K : PySem.W.Frag} {H : Hp} : ∀ (d : PyData) (v : V), Tp K H v d → Dp K H v d
  | .none, _, h => by
    cases h
    exact .non
  | .bool b, _, h => by
    cases h
    exact .bl b
  | .int i, _, h => by
    cases h
    exact .int i
  | .str x, _, h => by cases h
  | .list ds, _, h => by cases h
  | .tuple ds, _, h => by
    cases h with
    | tup h1 h2 => exact .tup h1 (TpAll.dp ds _ h2)
  | .dict kvs, _, h => by cases h
theorem TpAll.dp {K : PySem.W.Frag} {H : Hp} : ∀ (ds : List PyData) (vs : List V), TpAll K H vs ds → DpAll K H vs ds
  | [], _, h => by
    cases h
    exact .nil
  | d :: ds, _, h => by
    cases h with
    | cons h1 h2 => exact .cons (Tp.dp d _ h1) (TpAll.dp ds _ h2)
end
section
variable {K : PySem.W.Frag} {H : Hp}
theorem TpAll.len : ∀ {vs : List V} {ds : List PyData}, TpAll K H vs ds → vs.length = ds.length
  | _, _, .nil => rfl
  | _, _, .cons _ t => congrArg (· + 1) (TpAll.len t)
theorem TpAll.get : ∀ {vs : List V} {ds : List PyData} {i : Nat} {v : V}, TpAll K H vs ds → vs[i]? = some v → ∃ d, ds[i]? = some d ∧ Tp K H v d
  | _, _, _, _, .nil, e => by simp at e
  | _, _, 0, _, .cons r _, e => by
    simp at e
    subst e
    exact ⟨_, rfl, r⟩
  | _, _, i + 1, v, .cons _ t, e => TpAll.get (i := i) t (by simpa using e)
theorem TpAll.getD : ∀ {vs : List V} {ds : List PyData} {i : Nat} {d : PyData}, TpAll K H vs ds → ds[i]? = some d → ∃ v, vs[i]? = some v ∧ Tp K H v d
  | _, _, _, _, .nil, e => by simp at e
  | _, _, 0, _, .cons r _, e => by
    simp at e
    subst e
    exact ⟨_, rfl, r⟩
  | _, _, i + 1, d, .cons _ t, e => TpAll.getD (i := i) t (by simpa using e)
theorem TpAll.append : ∀ {vs ws : List V} {ds es : List PyData}, TpAll K H vs ds → TpAll K H ws es → TpAll K H (vs ++ ws) (ds ++ es)
  | _, _, _, _, .nil, h => h
  | _, _, _, _, .cons r t, h => .cons r (TpAll.append t h)
theorem TpAll.take : ∀ {vs : List V} {ds : List PyData} (n : Nat), TpAll K H vs ds → TpAll K H (vs.take n) (ds.take n)
  | _, _, 0, _ => .nil
  | _, _, _ + 1, .nil => .nil
  | _, _, n + 1, .cons r t => .cons r (TpAll.take n t)
theorem TpAll.drop : ∀ {vs : List V} {ds : List PyData} (n : Nat), TpAll K H vs ds → TpAll K H (vs.drop n) (ds.drop n)
  | _, _, 0, h => h
  | _, _, _ + 1, .nil => .nil
  | _, _, n + 1, .cons _ t => TpAll.drop n t
theorem TpAll.rev {vs : List V} {ds : List PyData} (h : TpAll K H vs ds) : TpAll K H vs.reverse ds.reverse := by
  have : ∀ {vs : List V} {ds : List PyData}, TpAll K H vs ds → TpAll K H vs.reverse ds.reverse := by
    intro vs
    induction vs with
    | nil =>
      intro ds h
      cases h
      exact .nil
    | cons v vs ih =>
      intro ds h
      cases h with
      | cons h1 h2 =>
        rw [List.reverse_cons, List.reverse_cons]
        exact (ih h2).append (.cons h1 .nil)
  exact this h
theorem TpAll.ints {ns : List Int} : ∀ {vs : List V}, TpAll K H vs (ns.map PyData.int) → vs = ns.map V.int := by
  induction ns with
  | nil =>
    intro vs h
    cases h
    rfl
  | cons n ns ih =>
    intro vs h
    cases h with
    | cons h1 h2 =>
      cases h1
      rw [ih h2]
      rfl
theorem TpAll.of_ints : ∀ (ns : List Int), TpAll K H (ns.map V.int) (ns.map PyData.int)
  | [] => .nil
  | n :: ns => .cons (.int n) (TpAll.of_ints ns)
theorem TpAll.bls {bs : List Bool} : ∀ {vs : List V}, TpAll K H vs (bs.map PyData.bool) → vs = bs.map V.bl := by
  induction bs with
  | nil =>
    intro vs h
    cases h
    rfl
  | cons n ns ih =>
    intro vs h
    cases h with
    | cons h1 h2 =>
      cases h1
      rw [ih h2]
      rfl
end

/-! ### the cask: a list of three ints that some callees turn -/
def CaskAt (H : Hp) (p : Addr) : Prop := ∃ a b n : Int, H p = some (.lst [.int a, .int b, .int n])
/-- all that is tracked stays, but the cask, which stays one -/
structure ExC (c : Option Addr) (H H' : Hp) : Prop where
  ex : ∀ a o, c ≠ some a → H a = some o → H' a = some o
  ck : ∀ p, c = some p → CaskAt H p → CaskAt H' p
  te : Te H H'
section
variable {c : Option Addr} {H H1 H2 : Hp}
theorem ExC.refl : ExC c H H := ⟨fun _ _ _ h => h, fun _ _ h => h, Te.refl H⟩
theorem ExC.trans (a : ExC c H H1) (b : ExC c H1 H2) : ExC c H H2 :=
  ⟨fun x o n h => b.ex x o n (a.ex x o n h), fun p e h => b.ck p e (a.ck p e h), a.te.trans b.te⟩
theorem Same.te (e : Same H H1) : Te H H1 := fun a xs h => by
  rcases h with h | ⟨o, h⟩
  · exact .inl (e a _ h)
  · exact .inr ⟨o, e a _ h⟩
theorem ExC.of (e : Same H H1) : ExC c H H1 := ⟨fun a o _ h => e a o h, fun p _ ⟨a, b, n, h⟩ => ⟨a, b, n, e p _ h⟩, Same.te e⟩
theorem ExC.same (e : ExC none H H1) : Same H H1 := fun a o h => e.ex a o (fun z => nomatch z) h
theorem ExC.none (e : ExC none H H1) : ExC c H H1 := ExC.of e.same
theorem same_new {p : Addr} {o : HO} (h : H p = none) : Same H (upd H p o) := fun b x e => by
  rw [upd_ne (ne_of_none e h)]
  exact e
theorem ExC.new {p : Addr} {o : HO} (h : H p = Option.none) : ExC c H (upd H p o) := ExC.of (same_new h)
/-- a new place ahead of an extension was new before -/
theorem ExC.back {p : Addr} (e : ExC c H H1) (hc : c ≠ some p) (h : H1 p = Option.none) : H p = Option.none := by
  cases q : H p with
  | none => rfl
  | some o =>
    rw [e.ex p o hc q] at h
    cases h
end

/-! ### slots -/
inductive Slot where
  | un
  | dat (d : PyData)
  /-- a list of one's own -/
  | own (ds : List PyData)
  /-- the cask -/
  | csk
  /-- the thing at p, with objects that are told place by place (m: one's own, new since the entry) -/
  | frg (m : Bool) (p : Addr) (fr : List (Addr × HO))
/-- lists, dicts -/
def mutO : HO → Bool
  | .lst _ => true
  | .dK _ => true
  | _ => false
structure FrOk (c : Option Addr) (H0 H : Hp) (m : Bool) (x : Addr × HO) : Prop where
  new : m = true → H0 x.1 = none
  nc : c ≠ some x.1
  at_ : H x.1 = some x.2
  mu : m = true → mutO x.2 = true
def SlotOk (c : Option Addr) (K : PySem.W.Frag) (H0 H : Hp) (σ : L2.St) (i : Nat) : Slot → Prop
  | .un => True
  | .dat d => ∃ v, σ[i]? = some (some v) ∧ Tp K H v d
  | .own ds => ∃ p vs, σ[i]? = some (some (.ref p)) ∧ H0 p = none ∧ H p = some (.lst vs) ∧ TpAll K H vs ds
  | .csk => ∃ p, c = some p ∧ σ[i]? = some (some (.ref p))
  | .frg m p fr => σ[i]? = some (some (.ref p)) ∧ ∀ x ∈ fr, FrOk c H0 H m x
/-- the places of a slot -/
def adr (o : Option (Option V)) (a : Addr) : Option Slot → Prop
  | some (.own _) => o = some (some (.ref a))
  | some (.frg _ _ fr) => a ∈ fr.map (·.1)
  | _ => False
/-- the places of one's own -/
def mine (o : Option (Option V)) (a : Addr) : Option Slot → Prop
  | some (.own _) => o = some (some (.ref a))
  | some (.frg true _ fr) => a ∈ fr.map (·.1)
  | _ => False
theorem adr_of_mine {o : Option (Option V)} {a : Addr} {s : Option Slot} (h : mine o a s) : adr o a s := by
  cases s with
  | none => exact h
  | some s =>
    cases s with
    | own ds => exact h
    | frg m p fr =>
      cases m with
      | true => exact h
      | false => exact h.elim
    | _ => exact h
structure Rep (c : Option Addr) (K : PySem.W.Frag) (H0 H : Hp) (σ : L2.St) (δ : List Slot) : Prop where
  len : σ.length = δ.length
  at_ : ∀ (i : Nat) (s : Slot), δ[i]? = some s → SlotOk c K H0 H σ i s
  sep : ∀ (i j : Nat) (a : Addr), i ≠ j → mine σ[i]? a δ[i]? → adr σ[j]? a δ[j]? → False
  base : ExC c H0 H
  ck : ∀ p, c = some p → CaskAt H0 p
section
variable {c : Option Addr} {K : PySem.W.Frag} {H0 H H1 : Hp} {σ : L2.St} {δ : List Slot}
theorem Rep.nc (r : Rep c K H0 H σ δ) {p : Addr} (h : H0 p = none) : c ≠ some p := fun e => by
  obtain ⟨a, b, n, q⟩ := r.ck p e
  rw [h] at q
  cases q
theorem Rep.cask (r : Rep c K H0 H σ δ) {p : Addr} (e : c = some p) : CaskAt H p := r.base.ck p e (r.ck p e)
theorem sqL_ex {p : Addr} {vs : List V} (e : ExC c H H1) (hc : c ≠ some p) (h : SqL K H p vs) : SqL K H1 p vs := by
  rcases h with (h | ⟨o, h⟩) | h
  · exact .inl (.inl (e.ex _ _ hc h))
  · exact .inl (.inr ⟨o, e.ex _ _ hc h⟩)
  · exact .inr h
theorem Rep.mono (r : Rep c K H0 H σ δ) (e : ExC c H H1) : Rep c K H0 H1 σ δ := by
  refine ⟨r.len, fun i s h => ?_, r.sep, r.base.trans e, r.ck⟩
  have q := r.at_ i s h
  cases s with
  | un => exact True.intro
  | dat d =>
    obtain ⟨v, h1, h2⟩ := q
    exact ⟨v, h1, Tp.te e.te _ _ h2⟩
  | own ds =>
    obtain ⟨p, vs, h1, h2, h3, h4⟩ := q
    exact ⟨p, vs, h1, h2, e.ex _ _ (r.nc h2) h3, TpAll.te e.te _ _ h4⟩
  | csk => exact q
  | frg m p fr => exact ⟨q.1, fun x hx => let k := q.2 x hx; ⟨k.new, k.nc, e.ex _ _ k.nc k.at_, k.mu⟩⟩
/-- a new place is none of the base's -/
theorem Rep.fresh (r : Rep c K H0 H σ δ) {p : Addr} (h : H p = none) : H0 p = none ∧ c ≠ some p := by
  have hc : c ≠ some p := fun e => by
    obtain ⟨a, b, n, q⟩ := r.cask e
    rw [h] at q
    cases q
  exact ⟨r.base.back hc h, hc⟩
/-- .. and no slot's -/
theorem Rep.free (r : Rep c K H0 H σ δ) {a : Addr} (h : H a = none) (j : Nat) : ¬ adr σ[j]? a δ[j]? := fun z => by
  cases e : δ[j]? with
  | none =>
    rw [e] at z
    exact z
  | some s =>
    rw [e] at z
    have q := r.at_ j s e
    cases s with
    | own ds =>
      obtain ⟨p, vs, h1, h2, h3, h4⟩ := q
      have z : σ[j]? = some (some (.ref a)) := z
      rw [h1] at z
      cases z
      rw [h] at h3
      cases h3
    | frg m p fr =>
      obtain ⟨x, hx, rfl⟩ := List.mem_map.mp (show a ∈ fr.map (·.1) from z)
      have := (q.2 x hx).at_
      rw [h] at this
      cases this
    | _ => exact z
theorem set_get {α : Type} {l : List α} {i j : Nat} {x y : α} (h : (l.set i x)[j]? = some y) : (j = i ∧ y = x ∧ i < l.length) ∨ (j ≠ i ∧ l[j]? = some y) := by
  by_cases e : j = i
  · subst e
    have hl : j < l.length := by
      have := (List.getElem?_eq_some_iff.mp h).1
      rwa [List.length_set] at this
    rw [List.getElem?_set_self hl] at h
    exact .inl ⟨rfl, (Option.some.inj h).symm, hl⟩
  · rw [List.getElem?_set_ne (Ne.symm e)] at h
    exact .inr ⟨e, h⟩
theorem slot_other {s : Slot} {i j : Nat} {v : Option V} (e : j ≠ i) (q : SlotOk c K H0 H σ j s) : SlotOk c K H0 H (σ.set i v) j s := by
  have g : (σ.set i v)[j]? = σ[j]? := List.getElem?_set_ne (Ne.symm e)
  cases s with
  | un => exact True.intro
  | dat d =>
    obtain ⟨v', h1, h2⟩ := q
    exact ⟨v', by rw [g]; exact h1, h2⟩
  | own ds =>
    obtain ⟨p, vs, h1, h2⟩ := q
    exact ⟨p, vs, by rw [g]; exact h1, h2⟩
  | csk =>
    obtain ⟨p, h1, h2⟩ := q
    exact ⟨p, h1, by rw [g]; exact h2⟩
  | frg m p fr => exact ⟨by rw [g]; exact q.1, q.2⟩
/-- the places after slot i took s -/
theorem adr_set {i j : Nat} {v : Option V} {s : Slot} {a : Addr} (hl : σ.length = δ.length) (z : adr (σ.set i v)[j]? a (δ.set i s)[j]?) : (j = i ∧ i < σ.length ∧ adr (some v) a (some s)) ∨ (j ≠ i ∧ adr σ[j]? a δ[j]?) := by
  by_cases e : j = i
  · subst e
    by_cases h : j < σ.length
    · rw [List.getElem?_set_self h, List.getElem?_set_self (by omega)] at z
      exact .inl ⟨rfl, h, z⟩
    · rw [List.getElem?_eq_none (l := δ.set j s) (by rw [List.length_set]; omega)] at z
      exact z.elim
  · rw [List.getElem?_set_ne (Ne.symm e), List.getElem?_set_ne (Ne.symm e)] at z
    exact .inr ⟨e, z⟩
theorem mine_set {i j : Nat} {v : Option V} {s : Slot} {a : Addr} (hl : σ.length = δ.length) (z : mine (σ.set i v)[j]? a (δ.set i s)[j]?) : (j = i ∧ i < σ.length ∧ mine (some v) a (some s)) ∨ (j ≠ i ∧ mine σ[j]? a δ[j]?) := by
  by_cases e : j = i
  · subst e
    by_cases h : j < σ.length
    · rw [List.getElem?_set_self h, List.getElem?_set_self (by omega)] at z
      exact .inl ⟨rfl, h, z⟩
    · rw [List.getElem?_eq_none (l := δ.set j s) (by rw [List.length_set]; omega)] at z
      exact z.elim
  · rw [List.getElem?_set_ne (Ne.symm e), List.getElem?_set_ne (Ne.symm e)] at z
    exact .inr ⟨e, z⟩
/-- a slot takes a thing whose places are no other slot's -/
theorem Rep.put (r : Rep c K H0 H σ δ) (i : Nat) {v : Option V} {s : Slot} (h : i < σ.length → SlotOk c K H0 H (σ.set i v) i s) (hs : ∀ a, adr (some v) a (some s) → ∀ j, j ≠ i → (mine (some v) a (some s) → ¬ adr σ[j]? a δ[j]?) ∧ ¬ mine σ[j]? a δ[j]?) : Rep c K H0 H (σ.set i v) (δ.set i s) := by
  refine ⟨by rw [List.length_set, List.length_set]; exact r.len, fun j t hj => ?_, fun j k a hjk oj ok => ?_, r.base, r.ck⟩
  · rcases set_get hj with ⟨e1, e2, hl⟩ | ⟨e1, e2⟩
    · subst e1 e2
      exact h (by rw [r.len]; exact hl)
    · exact slot_other e1 (r.at_ j t e2)
  · rcases mine_set r.len oj with ⟨e1, l1, z1⟩ | ⟨e1, z1⟩
    · rcases adr_set r.len ok with ⟨e2, l2, z2⟩ | ⟨e2, z2⟩
      · exact hjk (e1.trans e2.symm)
      · exact (hs a (adr_of_mine z1) k e2).1 z1 z2
    · rcases adr_set r.len ok with ⟨e2, l2, z2⟩ | ⟨e2, z2⟩
      · exact (hs a z2 j e1).2 z1
      · exact r.sep j k a hjk z1 z2
/-- a slot takes data -/
theorem Rep.setD (r : Rep c K H0 H σ δ) (i : Nat) {v : V} {d : PyData} (h : Tp K H v d) : Rep c K H0 H (σ.set i (some v)) (δ.set i (.dat d)) :=
  r.put i (fun hl => ⟨v, List.getElem?_set_self hl, h⟩) fun a z => z.elim
theorem Rep.setU (r : Rep c K H0 H σ δ) (i : Nat) (v : Option V) : Rep c K H0 H (σ.set i v) (δ.set i .un) :=
  r.put i (fun hl => True.intro) fun a z => z.elim
/-- a slot takes a new list: new at H, made by H1 -/
theorem Rep.setF (r : Rep c K H0 H σ δ) (e : ExC c H H1) (i : Nat) {p : Addr} {vs : List V} {ds : List PyData} (hp : H p = none) (h1 : H1 p = some (.lst vs)) (h2 : TpAll K H1 vs ds) : Rep c K H0 H1 (σ.set i (some (.ref p))) (δ.set i (.own ds)) :=
  (r.mono e).put i (fun hl => ⟨p, vs, List.getElem?_set_self hl, (r.fresh hp).1, h1, h2⟩) fun a z j hj => by
    have z : some (some (V.ref p)) = some (some (V.ref a)) := z
    cases z
    exact ⟨fun _ => r.free hp j, fun z => r.free hp j (adr_of_mine z)⟩
/-- a slot takes new objects: new at H, made by H1 -/
theorem Rep.newZ (r : Rep c K H0 H σ δ) (e : ExC c H H1) (i : Nat) {p : Addr} {fr : List (Addr × HO)} (h : ∀ x ∈ fr, H x.1 = none ∧ H1 x.1 = some x.2 ∧ mutO x.2 = true) : Rep c K H0 H1 (σ.set i (some (.ref p))) (δ.set i (.frg true p fr)) :=
  (r.mono e).put i (fun hl => ⟨List.getElem?_set_self hl, fun x hx => let k := h x hx; ⟨fun _ => (r.fresh k.1).1, (r.fresh k.1).2, k.2.1, fun _ => k.2.2⟩⟩) fun a z j hj => by
    obtain ⟨x, hx, rfl⟩ := List.mem_map.mp (show a ∈ fr.map (·.1) from z)
    exact ⟨fun _ => r.free (h x hx).1 j, fun z => r.free (h x hx).1 j (adr_of_mine z)⟩
/-- a slot takes objects that it only reads -/
theorem Rep.readZ (r : Rep c K H0 H σ δ) (i : Nat) {p : Addr} {fr : List (Addr × HO)} (h : ∀ x ∈ fr, c ≠ some x.1 ∧ H x.1 = some x.2 ∧ ∀ j, j ≠ i → ¬ mine σ[j]? x.1 δ[j]?) : Rep c K H0 H (σ.set i (some (.ref p))) (δ.set i (.frg false p fr)) :=
  r.put i (fun hl => ⟨List.getElem?_set_self hl, fun x hx => let k := h x hx; ⟨(fun z => nomatch z), k.1, k.2.1, (fun z => nomatch z)⟩⟩) fun a z j hj => by
    obtain ⟨x, hx, rfl⟩ := List.mem_map.mp (show a ∈ fr.map (·.1) from z)
    exact ⟨fun z => z.elim, (h x hx).2.2 j hj⟩
/-- a slot forgotten, its name keeps what it has -/
theorem Rep.drop (r : Rep c K H0 H σ δ) (i : Nat) : Rep c K H0 H σ (δ.set i .un) := by
  refine ⟨by rw [List.length_set]; exact r.len, fun j t hj => ?_, fun j k a hjk oj ok => ?_, r.base, r.ck⟩
  · rcases set_get hj with ⟨e1, e2, hl⟩ | ⟨e1, e2⟩
    · subst e2
      exact True.intro
    · exact r.at_ j t e2
  · have no : ∀ {m : Nat}, adr σ[m]? a (δ.set i .un)[m]? → adr σ[m]? a δ[m]? := fun {m} z => by
      cases q : (δ.set i .un)[m]? with
      | none =>
        rw [q] at z
        exact z.elim
      | some s =>
        rw [q] at z
        rcases set_get q with ⟨e1, e2, _⟩ | ⟨e1, e2⟩
        · subst e2
          exact z.elim
        · rw [e2]
          exact z
    have no2 : ∀ {m : Nat}, mine σ[m]? a (δ.set i .un)[m]? → mine σ[m]? a δ[m]? := fun {m} z => by
      cases q : (δ.set i .un)[m]? with
      | none =>
        rw [q] at z
        exact z.elim
      | some s =>
        rw [q] at z
        rcases set_get q with ⟨e1, e2, _⟩ | ⟨e1, e2⟩
        · subst e2
          exact z.elim
        · rw [e2]
          exact z
    exact r.sep j k a hjk (no2 oj) (no ok)
theorem mutO_te {H' : Hp} {P : Addr → Prop} (h : ∀ a o, ¬ P a → H a = some o → H' a = some o) (m : ∀ a, P a → ∀ o, H a = some o → mutO o = true) : Te H H' := fun a xs q => by
  have n : ¬ P a := fun z => by
    rcases q with q | ⟨o, q⟩
    · cases m a z _ q
    · cases m a z _ q
  rcases q with q | ⟨o, q⟩
  · exact .inl (h a _ n q)
  · exact .inr ⟨o, h a _ n q⟩
/-- the objects of slot i are changed, nothing else is -/
theorem Rep.change (r : Rep c K H0 H σ δ) {i : Nat} {s t : Slot} {H' : Hp} (hi : δ[i]? = some s) (hk : ∀ a o, ¬ mine σ[i]? a (some s) → H a = some o → H' a = some o) (h0 : ∀ a, mine σ[i]? a (some s) → H0 a = none) (hm : ∀ a, mine σ[i]? a (some s) → ∀ o, H a = some o → mutO o = true)
    (ht : Te H H' → SlotOk c K H0 H' σ i t) (ha : ∀ a, adr σ[i]? a (some t) → mine σ[i]? a (some s) ∨ H a = none) : Rep c K H0 H' σ (δ.set i t) := by
  have te : Te H H' := mutO_te hk hm
  have hl : i < δ.length := (List.getElem?_eq_some_iff.mp hi).1
  refine ⟨by rw [List.length_set]; exact r.len, fun j u hj => ?_, fun j k a hjk oj ok => ?_, ⟨fun a o n q => ?_, fun q e k => ?_, r.base.te.trans te⟩, r.ck⟩
  · rcases set_get hj with ⟨e1, e2, _⟩ | ⟨e1, e2⟩
    · subst e1 e2
      exact ht te
    · have q := r.at_ j u e2
      have ns : ∀ a, adr σ[j]? a (some u) → ¬ mine σ[i]? a (some s) := fun a z z' => r.sep i j a (Ne.symm e1) (by rw [hi]; exact z') (by rw [e2]; exact z)
      cases u with
      | un => exact True.intro
      | dat d =>
        obtain ⟨v, q1, q2⟩ := q
        exact ⟨v, q1, Tp.te te _ _ q2⟩
      | own fs =>
        obtain ⟨p', us, q1, q2, q3, q4⟩ := q
        exact ⟨p', us, q1, q2, hk _ _ (ns p' q1) q3, TpAll.te te _ _ q4⟩
      | csk => exact q
      | frg m p fr => exact ⟨q.1, fun x hx => let k := q.2 x hx; ⟨k.new, k.nc, hk _ _ (ns x.1 (List.mem_map.mpr ⟨x, hx, rfl⟩)) k.at_, k.mu⟩⟩
  · have cases_ : ∀ {m : Nat}, adr σ[m]? a (δ.set i t)[m]? → (m = i ∧ adr σ[i]? a (some t)) ∨ (m ≠ i ∧ adr σ[m]? a δ[m]?) := fun {m} z => by
      by_cases e : m = i
      · subst e
        rw [List.getElem?_set_self hl] at z
        exact .inl ⟨rfl, z⟩
      · rw [List.getElem?_set_ne (Ne.symm e)] at z
        exact .inr ⟨e, z⟩
    have cases2 : ∀ {m : Nat}, mine σ[m]? a (δ.set i t)[m]? → (m = i ∧ mine σ[i]? a (some t)) ∨ (m ≠ i ∧ mine σ[m]? a δ[m]?) := fun {m} z => by
      by_cases e : m = i
      · subst e
        rw [List.getElem?_set_self hl] at z
        exact .inl ⟨rfl, z⟩
      · rw [List.getElem?_set_ne (Ne.symm e)] at z
        exact .inr ⟨e, z⟩
    rcases cases2 oj with ⟨e1, z1⟩ | ⟨e1, z1⟩
    · rcases cases_ ok with ⟨e2, z2⟩ | ⟨e2, z2⟩
      · exact hjk (e1.trans e2.symm)
      · rcases ha a (adr_of_mine z1) with q | q
        · exact r.sep i k a (Ne.symm e2) (by rw [hi]; exact q) z2
        · exact r.free q k z2
    · rcases cases_ ok with ⟨e2, z2⟩ | ⟨e2, z2⟩
      · rcases ha a z2 with q | q
        · exact r.sep j i a e1 z1 (by rw [hi]; exact adr_of_mine q)
        · exact r.free q j (adr_of_mine z1)
      · exact r.sep j k a hjk z1 z2
  · exact hk a o (fun z => by rw [h0 a z] at q; cases q) (r.base.ex a o n q)
  · obtain ⟨x, y, z, k'⟩ := r.base.ck q e k
    exact ⟨x, y, z, hk _ _ (fun w => r.nc (h0 q w) e) k'⟩
/-- one's own list is changed -/
theorem Rep.mut (r : Rep c K H0 H σ δ) {i : Nat} {p : Addr} {ds es : List PyData} {vs : List V} (hi : δ[i]? = some (.own ds)) (hs : σ[i]? = some (some (.ref p))) (h : TpAll K H vs es) : Rep c K H0 (upd H p (.lst vs)) σ (δ.set i (.own es)) := by
  obtain ⟨p', ws, k1, k2, k3, k4⟩ := r.at_ i _ hi
  rw [hs] at k1
  cases k1
  have ad : ∀ {a : Addr} {ts : List PyData}, mine σ[i]? a (some (.own ts)) → a = p := fun {a ts} z => by
    have z : σ[i]? = some (some (.ref a)) := z
    rw [hs] at z
    cases z
    rfl
  refine r.change hi (fun a o n q => ?_) (fun a z => by rw [ad z]; exact k2) (fun a z o q => by rw [ad z, k3] at q; cases q; rfl) (fun te => ⟨p, vs, hs, k2, upd_same, TpAll.te te _ _ h⟩) fun a z => .inl z
  rw [upd_ne fun z => n (by rw [z]; exact hs)]
  exact q
/-- an object of the slot's is changed -/
theorem Rep.mutZ (r : Rep c K H0 H σ δ) {i : Nat} {p q : Addr} {fr fr' : List (Addr × HO)} {o : HO} (hi : δ[i]? = some (.frg true p fr)) (hq : q ∈ fr.map (·.1)) (ho : mutO o = true) (hf : ∀ x ∈ fr', x = (q, o) ∨ (x ∈ fr ∧ x.1 ≠ q)) : Rep c K H0 (upd H q o) σ (δ.set i (.frg true p fr')) := by
  obtain ⟨k1, k2⟩ := r.at_ i _ hi
  obtain ⟨y, hy, ey⟩ := List.mem_map.mp hq
  refine r.change hi (fun a u n z => ?_) (fun a z => ?_) (fun a z u w => ?_) (fun te => ⟨k1, fun x hx => ?_⟩) fun a z => ?_
  · rw [upd_ne fun e => n (by rw [e]; exact hq)]
    exact z
  · obtain ⟨x, hx, rfl⟩ := List.mem_map.mp (show a ∈ fr.map (·.1) from z)
    exact (k2 x hx).new rfl
  · obtain ⟨x, hx, rfl⟩ := List.mem_map.mp (show a ∈ fr.map (·.1) from z)
    rw [(k2 x hx).at_] at w
    cases w
    exact (k2 x hx).mu rfl
  · rcases hf x hx with e | ⟨h1, h2⟩
    · subst e
      have := k2 y hy
      exact ⟨fun e => show H0 q = none from ey ▸ this.new e, show c ≠ some q from ey ▸ this.nc, upd_same, fun _ => ho⟩
    · have := k2 x h1
      exact ⟨this.new, this.nc, by rw [upd_ne h2]; exact this.at_, this.mu⟩
  · obtain ⟨x, hx, rfl⟩ := List.mem_map.mp (show a ∈ fr'.map (·.1) from z)
    rcases hf x hx with e | ⟨h1, h2⟩
    · subst e
      exact .inl hq
    · exact .inl (List.mem_map.mpr ⟨x, h1, rfl⟩)
open Classical in
/-- the heap without some places -/
noncomputable def mask (P : Addr → Prop) (H : Hp) : Hp := fun a => if P a then none else H a
theorem mask_out {P : Addr → Prop} {H : Hp} {a : Addr} (h : ¬ P a) : mask P H a = H a := if_neg h
theorem mask_in {P : Addr → Prop} {H : Hp} {a : Addr} (h : P a) : mask P H a = none := if_pos h
theorem mask_some {P : Addr → Prop} {H : Hp} {a : Addr} {o : HO} (h : mask P H a = some o) : H a = some o ∧ ¬ P a := by
  by_cases q : P a
  · rw [mask_in q] at h
    cases h
  · rw [mask_out q] at h
    exact ⟨h, q⟩
def ownA (σ : L2.St) (δ : List Slot) (a : Addr) : Prop := ∃ i : Nat, mine σ[i]? a δ[i]?
theorem Rep.ownA (r : Rep c K H0 H σ δ) {a : Addr} (h : ownA σ δ a) : H0 a = none ∧ ∃ o, H a = some o ∧ mutO o = true := by
  obtain ⟨i, h1⟩ := h
  cases e : δ[i]? with
  | none =>
    rw [e] at h1
    exact h1.elim
  | some s =>
    rw [e] at h1
    have q := r.at_ i s e
    cases s with
    | own ds =>
      obtain ⟨p, vs, k1, k2, k3, k4⟩ := q
      have h1 : σ[i]? = some (some (.ref a)) := h1
      rw [h1] at k1
      cases k1
      exact ⟨k2, _, k3, rfl⟩
    | frg m p fr =>
      cases m with
      | true =>
        obtain ⟨x, hx, rfl⟩ := List.mem_map.mp (show a ∈ fr.map (·.1) from h1)
        have k := q.2 x hx
        exact ⟨k.new rfl, _, k.at_, k.mu rfl⟩
      | false => exact h1.elim
    | _ => exact h1.elim
theorem Rep.mask_te (r : Rep c K H0 H σ δ) : Te H (mask (WL.ownA σ δ) H) :=
  mutO_te (fun a o n q => by rw [mask_out n]; exact q) fun a z o q => by
    obtain ⟨_, u, k1, k2⟩ := r.ownA z
    rw [q] at k1
    cases k1
    exact k2
theorem Rep.mask_ex (r : Rep c K H0 H σ δ) : ExC c H0 (mask (WL.ownA σ δ) H) := by
  have nc : ∀ p, c = some p → ¬ WL.ownA σ δ p := fun p e z => r.nc (r.ownA z).1 e
  refine ⟨fun a o n h => ?_, fun p e h => ?_, r.base.te.trans r.mask_te⟩
  · rw [mask_out fun z => by rw [(r.ownA z).1] at h; cases h]
    exact r.base.ex a o n h
  · obtain ⟨x, y, z, q⟩ := r.base.ck p e h
    exact ⟨x, y, z, by rw [mask_out (nc p e)]; exact q⟩
/-- all that stands now, but what is one's own, as the base -/
theorem Rep.rebase (r : Rep c K H0 H σ δ) : Rep c K (mask (WL.ownA σ δ) H) H σ δ := by
  refine ⟨r.len, fun i s h => ?_, r.sep, ⟨fun a o _ h => (mask_some h).1, fun p e h => ?_, fun a xs h => ?_⟩, fun p e => r.mask_ex.ck p e (r.ck p e)⟩
  · have q := r.at_ i s h
    cases s with
    | un => exact q
    | dat d => exact q
    | own ds =>
      obtain ⟨p, vs, h1, h2, h3, h4⟩ := q
      exact ⟨p, vs, h1, mask_in ⟨i, by rw [h]; exact h1⟩, h3, h4⟩
    | csk => exact q
    | frg m p fr => exact ⟨q.1, fun x hx => let k := q.2 x hx; ⟨fun e => mask_in ⟨i, by rw [h, e]; exact List.mem_map.mpr ⟨x, hx, rfl⟩⟩, k.nc, k.at_, k.mu⟩⟩
  · obtain ⟨x, y, z, q⟩ := h
    exact ⟨x, y, z, (mask_some q).1⟩
  · rcases h with h | ⟨o, h⟩
    · exact .inl (mask_some h).1
    · exact .inr ⟨o, (mask_some h).1⟩
theorem Rep.unbase {B : Hp} (r : Rep c K B H σ δ) (e : ExC c H0 B) (k : ∀ p, c = some p → CaskAt H0 p) : Rep c K H0 H σ δ := by
  refine ⟨r.len, fun i s h => ?_, r.sep, e.trans r.base, k⟩
  have q := r.at_ i s h
  cases s with
  | un => exact q
  | dat d => exact q
  | own ds =>
    obtain ⟨p, vs, h1, h2, h3, h4⟩ := q
    exact ⟨p, vs, h1, e.back (r.nc h2) h2, h3, h4⟩
  | csk => exact q
  | frg m p fr => exact ⟨q.1, fun x hx => let k := q.2 x hx; ⟨fun z => e.back k.nc (k.new z), k.nc, k.at_, k.mu⟩⟩
end
end WL

set_option maxRecDepth 100000
set_option maxHeartbeats 4000000
namespace WL
open PySem PySem.Spec PyProof.Rows L2

/-! ### t[::-1] of a tuple -/
theorem fm_congr {α β : Type} {f g : α → Option β} : ∀ {l : List α}, (∀ x ∈ l, f x = g x) → l.filterMap f = l.filterMap g
  | [], _ => rfl
  | x :: r, h => by
    rw [List.filterMap_cons, List.filterMap_cons, h x List.mem_cons_self, fm_congr fun y hy => h y (List.mem_cons_of_mem _ hy)]
section
variable {prog : Program} {w : World} {A : Around} {E : Value → Shared → Prop} {s : Shared}
theorem pick_back (items : Array Value) : ((List.range items.size).filterMap fun (k : Nat) => items[((items.size : Int) - 1 + (k : Int) * (-1)).toNat]?).toArray = items.toList.reverse.toArray := by
  rw [← PySem.W.krv_pick]
  unfold slicePick
  rw [PySem.W.krv_bounds]
  show _ = ((sliceRange ((items.size : Int) - 1) (-1) (-1)).filterMap (items[·]?)).toArray
  rw [PySem.W.krv_sliceRange, List.filterMap_map]
  congr 1
  refine fm_congr fun k hk => ?_
  have := List.mem_range.mp hk
  show items[((items.size : Int) - 1 + (k : Int) * (-1)).toNat]? = items[items.size - 1 - k]?
  congr 1
  omega
theorem getItem_tuple_back {t sl : Addr} {items : Array Value} {vl vu vk : Value} {Q : Value → Shared → Prop} (ht : IsTup s.heap t items) (hs : s.heap.IsSliceOf sl vl vu vk) (pl : IsPart vl none) (pu : IsPart vu none) (pk : IsPart vk (some (-1)))
    (h : Q (.ref s.heap.objs.size) { s with heap := s.heap.push { cls := .type "tuple", data := .seq items.toList.reverse.toArray } })
    (hsz : items.size ≤ sizeLine) : wpAny (model prog w) A (getItem (.ref t) (.ref sl)) Q E s := by
  have htake : sizeOk (.seq items.toList.reverse.toArray) := by
    show items.toList.reverse.toArray.size ≤ sizeLine
    rw [List.size_toArray, List.length_reverse, Array.length_toList]
    exact hsz
  obtain ⟨os, hos, hcs, hds⟩ := id hs
  have hTs : s.TypeIs (.ref sl) "slice" := ⟨os, hos, hcs⟩
  unfold getItem
  try with_reducible refine wpAny_holding ?_
  first | refine wpAny_bind (wpAny_pure ?_) | skip
  refine wpAny_bind (wpAny_sequenceKey ht.typeIs (by decide) ?_)
  refine wpAny_bind (wpAny_callSpecial?_slot (name := Str.ofString "__getitem__") ht.typeIs PyProof.Rows.slot_tuple_getitem
    (wpAny_call_entry PyProof.Rows.slot_tuple_getitem ht.typeIs entry_tuple_getitem ?_ (args_tuple_getitem _ _)))
  show wpAny _ _ (Builtin.Tuple.tupleItemsOf (.ref t) >>= _) _ _ s
  refine wpAny_bind (tupleItemsOf_ ht ?_)
  refine wpAny_bind (wpAny_typeOf hTs ?_)
  rw [if_pos (by decide)]
  have app : ∀ {A : Around} {Q' : Int × Int × Nat → Shared → Prop}, Q' ((items.size : Int) - 1, -1, items.size) s → wpAny (model prog w) A (Builtin.Slice.sliceApplied (.ref sl) (pure (items.size : Int))) Q' E s := fun {A Q'} h' => by
    unfold Builtin.Slice.sliceApplied Builtin.Slice.sliceFields
    refine wpAny_bind (wpAny_bind (wpAny_field hos hds (x := vl) rfl (wpAny_bind (wpAny_field hos hds (x := vu) rfl (wpAny_bind (wpAny_field hos hds (x := vk) rfl (wpAny_pure ?_)))))))
    refine wpAny_bind (HT.slicePart_ pk ?_)
    show wpAny _ _ (if ((-1 : Int) == 0) = true then _ else _) _ _ s
    rw [if_neg (by decide)]
    refine wpAny_bind (HT.slicePart_ pl (wpAny_bind (HT.slicePart_ pu (wpAny_bind (wpAny_pure ?_)))))
    have e1 : Builtin.Slice.sliceAdjust Option.none Option.none (-1) (items.size : Int) = ((items.size : Int) - 1, -1) := by
      unfold Builtin.Slice.sliceAdjust
      simp
    have e2 : Builtin.Slice.slicePlaces ((items.size : Int) - 1) (-1) (-1) = items.size := by
      unfold Builtin.Slice.slicePlaces
      have h1 : ¬ ((-1 : Int) > 0) := by decide
      rw [if_neg h1, show (-(-1) : Int) = 1 by decide, Int.ediv_one]
      split <;> omega
    show wpAny _ _ (match Builtin.Slice.sliceAdjust Option.none Option.none (-1) (items.size : Int) with | (lo, hi) => pure (lo, (-1 : Int), Builtin.Slice.slicePlaces lo hi (-1))) _ _ s
    rw [e1]
    show wpAny _ _ (pure ((items.size : Int) - 1, (-1 : Int), Builtin.Slice.slicePlaces ((items.size : Int) - 1) (-1) (-1))) _ _ s
    rw [e2]
    exact wpAny_pure h'
  refine wpAny_bind (app ?_)
  have hno : ¬ ((((items.size : Int) - 1) == 0 && (-1 : Int) == 1 && items.size == items.size) = true) := by
    intro q
    rw [Bool.and_eq_true, Bool.and_eq_true] at q
    exact absurd q.1.2 (by decide)
  show wpAny _ _ (if (((items.size : Int) - 1) == 0 && (-1 : Int) == 1 && items.size == items.size) = true then _ else _) _ _ s
  rw [if_neg hno, pick_back]
  first
    | exact wpAny_bind (m := Builtin.Tuple.tupleExact _) (wpAny_newObj_type (wpAny_pure ⟨_, rfl, wpAny_pure h⟩) htake)
    | exact wpAny_bind (m := Builtin.Tuple.tupleExact _) (wpAny_newObj_type (wpAny_bind (wpAny_pure (wpAny_pure ⟨_, rfl, wpAny_pure h⟩))) htake)
    | exact wpAny_bind (wpAny_bind (m := Builtin.Tuple.tupleExact _) (wpAny_newObj_type (wpAny_pure (wpAny_pure ⟨_, rfl, wpAny_pure h⟩)) htake))
    | exact wpAny_bind (wpAny_bind (m := Builtin.Tuple.tupleExact _) (wpAny_newObj_type (wpAny_pure ⟨_, rfl, wpAny_pure h⟩) htake))
end
section
variable {X : Cx}
def tRevT (K : PySem.W.Frag) (te : TE) : TE := fun σ H Q => te σ H fun x H1 => ∃ a xs, x = .ref a ∧ SqT K H1 a xs ∧ ∀ p, H1 p = none → Q (.ref p) (upd H1 p (.tup xs.reverse))
theorem pe_revT {e : Expr} {te : TE} {k : Nat} {p1 p2 p3 pos : Pos} (he : PE X e te) : PE X (.Subscript e (.Slice none none (some (.UnaryOp .USub (.Constant (.int 1) k p1) p2)) p3) pos) (tRevT X.K te) := by
  refine ⟨fun pins s σ H Q I h => ?_⟩
  refine Subscript_ (thn (he.run pins s σ H _ I h) fun v s1 ⟨x, H1, I1, r1, q1⟩ => ?_)
  obtain ⟨a, xs, ex, hx, q⟩ := q1
  subst ex
  cases r1
  have hst : PO X (some (.UnaryOp .USub (.Constant (.int 1) k p1) p2)) (tPart (tUn (rU fun i => .int (-i)) (tC (.int 1)))) := po_some (pe_un un_neg pe_int)
  refine wpAny_Slice (thn (po_none.run pins s1 σ H1 (fun o H2 => o = none ∧ H2 = H1) I1 ⟨rfl, rfl⟩) fun vl s2 ⟨l, H2, I2, pl, el, e2⟩ => ?_)
  subst el e2
  refine thn (po_none.run pins s2 σ H2 (fun o H3 => o = none ∧ H3 = H2) I2 ⟨rfl, rfl⟩) fun vu s3 ⟨u, H3, I3, pu, eu, e3⟩ => ?_
  subst eu e3
  refine thn (hst.run pins s3 σ H3 (fun o H4 => o = some (-1) ∧ H4 = H3) I3 ⟨1, rfl, -1, rfl, rfl, rfl⟩) fun vs s4 ⟨o, H4, I4, ps, eo, e4⟩ => ?_
  subst eo e4
  have I5 : Inv X pins σ H4 { s4 with heap := s4.heap.push { cls := .type "slice", data := .fields #[vl, vu, vs] } } := I4.kept (t' := s4.toks) fun b ob q => Heap.get?_push_of_some _ q
  obtain ⟨its, r, ht, hz⟩ := I5.tuple hx
  have hlen := r.length
  show wpAny (model X.prog X.w) X.A (subscriptTail e (.Slice none none (some (.UnaryOp .USub (.Constant (.int 1) k p1) p2)) p3) (.ref a) (.ref s4.heap.objs.size)) (EP X pins σ Q) X.xe { s4 with heap := s4.heap.push { cls := .type "slice", data := .fields #[vl, vu, vs] } }
  refine tail_any (ops := [.ref a, .ref s4.heap.objs.size]) ht.typeIs (PyProof.Rows.slot_tuple_getitem.lookup) ?_ (by with_unfolding_all rfl)
  refine getItem_tuple_back ht (Heap.IsSliceOf.new _ vl vu vs) pl pu ps ?_ (by rw [List.size_toArray]; omega)
  refine ⟨.ref _, _, I5.laid (t' := s4.toks) (o := .tup xs.reverse) (fun b ob q => Heap.get?_push_of_some _ q) (Nat.le_refl _) ?_, rfl, q _ (I5.hok.fresh (Nat.le_refl _))⟩
  exact ⟨by rw [List.length_reverse]; exact hz, _, r.reverse, IsTup.new _ _⟩

/-! ### sum and max of a tuple of ints -/
theorem cr_sumT (hc : X.calm = true) : CallR X (.builtin "sum") (fun vs H Q => ∃ (a : Addr) (ns : List Int), vs = [V.ref a] ∧ SqT X.K H a (ns.map V.int) ∧ Q (.int ns.sum) H) := by
  intro pins s σ H vs us Q I r h
  obtain ⟨a, ns, rfl, hs, q⟩ := h
  obtain ⟨its, rv, hl, _⟩ := I.tuple hs
  rw [Vals.ref1 r]
  have hi := rv.ints
  obtain ⟨xs, hx⟩ := hi.allInts.items
  have hn : numsOf its.toArray.toList = ns := by rw [show its.toArray.toList = its from rfl, hi.numsOf]
  rw [hx] at hl hn
  rw [nums_intItems] at hn
  refine PySem.W.ktm_sumG (I.ok.hd hc) (show s.heap.IsTuple a (intItems xs) from hl) fun h' tk t' hk => ?_
  rw [preSum_eq, List.take_of_length_le (by simp), hn]
  exact ⟨.int _, H, I.kept hk, ⟨_, rfl⟩, q⟩
theorem depth_ints : ∀ ns : List Int, PyData.depthAll (ns.map PyData.int) = 0
  | [] => by rw [List.map_nil, PyData.depthAll]
  | n :: ns => by rw [List.map_cons, PyData.depthAll, depth_ints ns, PyData.depth]; rfl
theorem alike_ints (ns : List Int) : PySem.W.AlikeAll (ns.map PyData.int) := by
  refine ⟨fun x hx y hy => ?_, fun x hx e => ?_⟩
  · obtain ⟨a, _, rfl⟩ := List.mem_map.mp hx
    obtain ⟨b, _, rfl⟩ := List.mem_map.mp hy
    rfl
  · obtain ⟨a, _, rfl⟩ := List.mem_map.mp hx
    cases e
theorem cr_maxT (hc : X.calm = true) (hu : X.A.units + 1 < cLine) : CallR X (.builtin "max") (fun vs H Q => ∃ (a : Addr) (n : Int) (ns : List Int), vs = [V.ref a] ∧ SqT X.K H a ((n :: ns).map V.int) ∧ Q (.int (ns.foldl max n)) H) := by
  intro pins s σ H vs us Q I r h
  obtain ⟨a, n, ns, rfl, hs, q⟩ := h
  obtain ⟨its, rv, hl, _⟩ := I.tuple hs
  rw [Vals.ref1 r]
  have hi := rv.ints
  have hr : ReadsAll s.heap its.toArray.toList (.int n :: ns.map .int) [] := IntsAre.reads s.heap hi
  refine PySem.W.max_tuple_data (I.ok.hd hc) (show s.heap.IsTuple a its.toArray from hl) hr (alike_ints (n :: ns)) ?_ fun i v h' tk bs hv rd hk => ?_
  · have e : PyData.depthAll (.int n :: ns.map .int) = 0 := depth_ints (n :: ns)
    rw [e]
    exact hu
  · rw [PySem.W.maxD_ints] at rd
    cases rd
    exact ⟨.int _, H, I.kept hk, ⟨_, rfl⟩, q⟩
end

/-! ### judgements by data -/
/-- an expression gives data of which R -/
def tD (c : Option Addr) (K : PySem.W.Frag) (δ : List Slot) (R : PyData → Prop) : TE := fun σ H Q => (∃ H0, Rep c K H0 H σ δ) ∧ ∀ v d H', ExC c H H' → Tp K H' v d → R d → Q v H'
/-- .. a new list -/
def tF (c : Option Addr) (K : PySem.W.Frag) (δ : List Slot) (R : List PyData → Prop) : TE := fun σ H Q => (∃ H0, Rep c K H0 H σ δ) ∧ ∀ p vs ds H', H p = none → ExC c H H' → H' p = some (.lst vs) → TpAll K H' vs ds → R ds → Q (.ref p) H'
/-- .. a list that is read -/
def tR (c : Option Addr) (K : PySem.W.Frag) (δ : List Slot) (R : List PyData → Prop) : TE := fun σ H Q => (∃ H0, Rep c K H0 H σ δ) ∧ ∀ p vs ds H', c ≠ some p → ExC c H H' → SqL K H' p vs → TpAll K H' vs ds → R ds → Q (.ref p) H'
/-- a test's answer -/
def tT (c : Option Addr) (K : PySem.W.Frag) (δ : List Slot) (B : Bool → Prop) : TT := fun σ H Q => (∃ H0, Rep c K H0 H σ δ) ∧ ∀ b H', ExC c H H' → B b → Q b H'
/-- arguments -/
def tA (c : Option Addr) (K : PySem.W.Frag) (δ : List Slot) (R : List PyData → Prop) : TA := fun σ H Q => (∃ H0, Rep c K H0 H σ δ) ∧ ∀ vs ds H', ExC c H H' → TpAll K H' vs ds → R ds → Q vs H'
/-- a slice's part -/
def tP (c : Option Addr) (K : PySem.W.Frag) (δ : List Slot) (o : Option Int) : TO := fun σ H Q => (∃ H0, Rep c K H0 H σ δ) ∧ ∀ H', ExC c H H' → Q o H'
abbrev ED (X : Cx) (c : Option Addr) (e : Expr) (δ : List Slot) (R : PyData → Prop) : Prop := PE X e (tD c X.K δ R)
abbrev EF (X : Cx) (c : Option Addr) (e : Expr) (δ : List Slot) (R : List PyData → Prop) : Prop := PE X e (tF c X.K δ R)
abbrev ER (X : Cx) (c : Option Addr) (e : Expr) (δ : List Slot) (R : List PyData → Prop) : Prop := PE X e (tR c X.K δ R)
abbrev ET (X : Cx) (c : Option Addr) (e : Expr) (δ : List Slot) (B : Bool → Prop) : Prop := PT X e (tT c X.K δ B)
abbrev EW (X : Cx) (c : Option Addr) (e : Expr) (δ : List Slot) (B : Bool → Prop) : Prop := PW X e (tT c X.K δ B)
abbrev EA (X : Cx) (c : Option Addr) (es : List Expr) (δ : List Slot) (R : List PyData → Prop) : Prop := PA X es (tA c X.K δ R)
abbrev EP_ (X : Cx) (c : Option Addr) (e : Option Expr) (δ : List Slot) (o : Option Int) : Prop := PO X e (tP c X.K δ o)
/-- determined ones -/
abbrev DE (X : Cx) (c : Option Addr) (e : Expr) (δ : List Slot) (d : PyData) : Prop := ED X c e δ (Eq d)
abbrev DF (X : Cx) (c : Option Addr) (e : Expr) (δ : List Slot) (ds : List PyData) : Prop := EF X c e δ (Eq ds)
abbrev DR (X : Cx) (c : Option Addr) (e : Expr) (δ : List Slot) (ds : List PyData) : Prop := ER X c e δ (Eq ds)
abbrev DT (X : Cx) (c : Option Addr) (e : Expr) (δ : List Slot) (b : Bool) : Prop := ET X c e δ (Eq b)
abbrev DW (X : Cx) (c : Option Addr) (e : Expr) (δ : List Slot) (b : Bool) : Prop := EW X c e δ (Eq b)
abbrev DA (X : Cx) (c : Option Addr) (es : List Expr) (δ : List Slot) (ds : List PyData) : Prop := EA X c es δ (Eq ds)

section
variable {X : Cx} {c : Option Addr} {δ : List Slot} {e a b : Expr} {pos : Pos} {R Ra Rb R' : PyData → Prop} {d d1 d2 : PyData} {L La Lb : List PyData → Prop} {ds ds1 ds2 : List PyData} {B B1 B2 : Bool → Prop} {x : Str}
theorem pe_imp {t t' : TE} (h : PE X e t) (k : ∀ σ H Q, t' σ H Q → t σ H Q) : PE X e t' := ⟨fun pins s σ H Q I q => h.run pins s σ H Q I (k σ H Q q)⟩
theorem pt_imp {t t' : TT} (h : PT X e t) (k : ∀ σ H Q, t' σ H Q → t σ H Q) : PT X e t' := ⟨fun pins s σ H Q I q => h.run pins s σ H Q I (k σ H Q q)⟩
theorem pw_imp {t t' : TT} (h : PW X e t) (k : ∀ σ H Q, t' σ H Q → t σ H Q) : PW X e t' := ⟨fun wh pins s σ H Q I q => h.run wh pins s σ H Q I (k σ H Q q)⟩
theorem pa_imp {es : List Expr} {t t' : TA} (h : PA X es t) (k : ∀ σ H Q, t' σ H Q → t σ H Q) : PA X es t' := ⟨fun p pins s σ H Q I q => h.run p pins s σ H Q I (k σ H Q q)⟩
theorem pe_hyp {p : Prop} {t : TE} (h : p → PE X e t) : PE X e (fun σ H Q => p ∧ t σ H Q) := ⟨fun pins s σ H Q I q => (h q.1).run pins s σ H Q I q.2⟩
theorem pt_hyp {p : Prop} {t : TT} (h : p → PT X e t) : PT X e (fun σ H Q => p ∧ t σ H Q) := ⟨fun pins s σ H Q I q => (h q.1).run pins s σ H Q I q.2⟩
theorem pw_hyp {p : Prop} {t : TT} (h : p → PW X e t) : PW X e (fun σ H Q => p ∧ t σ H Q) := ⟨fun wh pins s σ H Q I q => (h q.1).run wh pins s σ H Q I q.2⟩
theorem ED.mono (h : ED X c e δ R) (k : ∀ d, R d → R' d) : ED X c e δ R' := pe_imp h fun _ _ _ q => ⟨q.1, fun v d H' x t r => q.2 v d H' x t (k d r)⟩
theorem EF.mono (h : EF X c e δ L) (k : ∀ d, L d → La d) : EF X c e δ La := pe_imp h fun _ _ _ q => ⟨q.1, fun p v d H' n x y t r => q.2 p v d H' n x y t (k d r)⟩
theorem ER.mono (h : ER X c e δ L) (k : ∀ d, L d → La d) : ER X c e δ La := pe_imp h fun _ _ _ q => ⟨q.1, fun p v d H' n x y t r => q.2 p v d H' n x y t (k d r)⟩
theorem ET.mono (h : ET X c e δ B) (k : ∀ d, B d → B1 d) : ET X c e δ B1 := pt_imp h fun _ _ _ q => ⟨q.1, fun b H' x r => q.2 b H' x (k b r)⟩
theorem DE.to (h : DE X c e δ d) (k : d = d1) : DE X c e δ d1 := k ▸ h
theorem DT.to {b b' : Bool} (h : DT X c e δ b) (k : b = b') : DT X c e δ b' := k ▸ h

/-! names, constants -/
theorem de_var (i : Nat) {x : Str} (hN : X.N[i]? = some x := by rfl) (hv : Vis X.env.scope x := by first | exact Or.inl rfl | exact Or.inr (Or.inl rfl) | exact Or.inr (Or.inr rfl)) (hδ : δ[i]? = some (.dat d) := by rfl)
    (hd : (x == ("__debug__" : Str)) = false := by decide) (hcd : (x == ("__classdict__" : Str)) = false := by decide) : DE X c (.Name x pos) δ d :=
  pe_imp (pe_var hN hv hd hcd) fun σ H Q q => by
    obtain ⟨⟨H0, r⟩, q⟩ := q
    obtain ⟨v, h1, h2⟩ := r.at_ i _ hδ
    exact ⟨v, h1, q v d H ExC.refl h2 rfl⟩
theorem dr_own (i : Nat) {x : Str} (hN : X.N[i]? = some x := by rfl) (hv : Vis X.env.scope x := by first | exact Or.inl rfl | exact Or.inr (Or.inl rfl) | exact Or.inr (Or.inr rfl)) (hδ : δ[i]? = some (.own ds) := by rfl)
    (hd : (x == ("__debug__" : Str)) = false := by decide) (hcd : (x == ("__classdict__" : Str)) = false := by decide) : DR X c (.Name x pos) δ ds :=
  pe_imp (pe_var hN hv hd hcd) fun σ H Q q => by
    obtain ⟨⟨H0, r⟩, q⟩ := q
    obtain ⟨p, vs, h1, h2, h3, h4⟩ := r.at_ i _ hδ
    exact ⟨.ref p, h1, q p vs ds H (r.nc h2) ExC.refl (SqL.of h3) h4 rfl⟩
theorem er_fresh (h : EF X c e δ L) : ER X c e δ L := pe_imp h fun σ H Q q => by
  obtain ⟨⟨H0, r⟩, q⟩ := q
  exact ⟨⟨H0, r⟩, fun p vs ds H' n x y t k => q p vs ds H' (r.fresh n).2 x (SqL.of y) t k⟩
theorem de_int {i j} : DE X c (.Constant (.int i) j pos) δ (.int i) := pe_imp pe_int fun _ H _ q => q.2 _ _ H ExC.refl (.int i) rfl
theorem de_bl {i : Bool} {j} : DE X c (.Constant (.bool i) j pos) δ (.bool i) := pe_imp pe_bl fun _ H _ q => q.2 _ _ H ExC.refl (.bl i) rfl
theorem de_non {j} : DE X c (.Constant .none j pos) δ .none := pe_imp pe_non fun _ H _ q => q.2 _ _ H ExC.refl .non rfl
theorem de_globI {n : Int} {t : Tok} (hg : Gl X x) (hm : X.mg x = some (.int n t)) (hd : (x == ("__debug__" : Str)) = false := by decide) : DE X c (.Name x pos) δ (.int n) :=
  pe_imp (pe_glob hg hm (v := .int n) ⟨_, rfl⟩ hd) fun _ H _ q => q.2 _ _ H ExC.refl (.int n) rfl

/-! two-place operations -/
theorem ed_op {op : Operator} {r : L2.R2} (ho : OpR X (binaryOp op) r) (ha : ED X c a δ Ra) (hb : ED X c b δ Rb)
    (h : ∀ (H : Hp) (v u : V) (d1 d2 : PyData) (Q : VK), Tp X.K H v d1 → Tp X.K H u d2 → Ra d1 → Rb d2 → (∀ w d H', ExC c H H' → Tp X.K H' w d → R d → Q w H') → r v u H Q) : ED X c (.BinOp a op b pos) δ R :=
  pe_imp (pe_op ho ha hb) fun σ H Q q => by
    obtain ⟨⟨H0, rp⟩, q⟩ := q
    refine ⟨⟨H0, rp⟩, fun v d1 H1 x1 t1 r1 => ⟨⟨H0, rp.mono x1⟩, fun u d2 H2 x2 t2 r2 => h H2 v u d1 d2 Q (Tp.te x2.te _ _ t1) t2 r1 r2 fun w d H' x t r => ?_⟩⟩
    exact q w d H' ((x1.trans x2).trans x) t r
/-- ints -/
theorem ed_opI {op : Operator} {C : Int → Int → Prop} {g : Int → Int → Int} {P1 P2 : Int → Prop} (ho : OpR X (binaryOp op) (rI C fun i j => .int (g i j))) (ha : ED X c a δ fun d => ∃ i, d = .int i ∧ P1 i) (hb : ED X c b δ fun d => ∃ i, d = .int i ∧ P2 i)
    (hC : ∀ i j, P1 i → P2 j → C i j) : ED X c (.BinOp a op b pos) δ fun d => ∃ i j, d = .int (g i j) ∧ P1 i ∧ P2 j :=
  ed_op ho ha hb fun H v u d1 d2 Q t1 t2 ⟨i, e1, p1⟩ ⟨j, e2, p2⟩ q => by
    subst e1 e2
    cases t1
    cases t2
    exact ⟨i, j, rfl, rfl, hC i j p1 p2, q _ _ H ExC.refl (.int _) ⟨i, j, rfl, p1, p2⟩⟩
theorem ed_opI0 {op : Operator} {g : Int → Int → Int} {P1 P2 : Int → Prop} (ho : OpR X (binaryOp op) (rI0 fun i j => .int (g i j))) (ha : ED X c a δ fun d => ∃ i, d = .int i ∧ P1 i) (hb : ED X c b δ fun d => ∃ i, d = .int i ∧ P2 i) :
    ED X c (.BinOp a op b pos) δ fun d => ∃ i j, d = .int (g i j) ∧ P1 i ∧ P2 j :=
  ed_op ho ha hb fun H v u d1 d2 Q t1 t2 ⟨i, e1, p1⟩ ⟨j, e2, p2⟩ q => by
    subst e1 e2
    cases t1
    cases t2
    exact ⟨i, j, rfl, rfl, q _ _ H ExC.refl (.int _) ⟨i, j, rfl, p1, p2⟩⟩
theorem DE.i {i : Int} (h : DE X c e δ (.int i)) : ED X c e δ fun d => ∃ j, d = .int j ∧ j = i := ED.mono h fun d k => ⟨i, k.symm, rfl⟩
theorem de_add {i j : Int} (ha : DE X c a δ (.int i)) (hb : DE X c b δ (.int j)) : DE X c (.BinOp a .Add b pos) δ (.int (i + j)) :=
  ED.mono (ed_opI0 op_add (DE.i ha) (DE.i hb)) fun d ⟨m, n, k, k1, k2⟩ => by subst k1 k2; exact k.symm
theorem de_sub {i j : Int} (ha : DE X c a δ (.int i)) (hb : DE X c b δ (.int j)) : DE X c (.BinOp a .Sub b pos) δ (.int (i - j)) :=
  ED.mono (ed_opI0 op_sub (DE.i ha) (DE.i hb)) fun d ⟨m, n, k, k1, k2⟩ => by subst k1 k2; exact k.symm
theorem de_neg {i : Int} (ha : DE X c a δ (.int i)) : DE X c (.UnaryOp .USub a pos) δ (.int (-i)) := pe_imp (pe_un un_neg ha) fun σ H Q q => by
  refine ⟨q.1, fun v d H1 x1 t1 r1 => ?_⟩
  subst r1
  cases t1
  exact ⟨i, rfl, q.2 _ _ H1 x1 (.int _) rfl⟩
/-- t + u of tuples -/
theorem de_cat (ha : DE X c a δ (.tuple ds1)) (hb : DE X c b δ (.tuple ds2)) (hl : ds1.length + ds2.length ≤ 100000) : DE X c (.BinOp a .Add b pos) δ (.tuple (ds1 ++ ds2)) :=
  ed_op op_catA ha hb fun H v u e1 e2 Q t1 t2 k1 k2 q => by
    subst k1 k2
    cases t1 with
    | @tup p1 xs1 _ s1 a1 =>
      cases t2 with
      | @tup p2 xs2 _ s2 a2 =>
        have l1 := a1.len
        have l2 := a2.len
        refine ⟨_, _, _, _, rfl, rfl, s1, s2, Nat.le_trans (by omega) (show 100000 ≤ sizeLine by decide), fun z => ?_, fun _ z => ?_, fun _ _ p hp => ?_⟩
        · subst z
          cases a1
          exact q _ _ H ExC.refl (.tup s2 a2) rfl
        · subst z
          cases a2
          rw [List.append_nil] at q
          exact q _ _ H ExC.refl (.tup s1 a1) rfl
        · have x : ExC c H (upd H p (.tup (xs1 ++ xs2))) := ExC.new hp
          exact q _ _ _ x (.tup (SqT.of upd_same) (TpAll.append (TpAll.te x.te _ _ a1) (TpAll.te x.te _ _ a2))) rfl

/-! comparisons -/
abbrev EC (X : Cx) (c : Option Addr) (op : CmpOp) (a b : Expr) (δ : List Slot) (B : Bool → Prop) : Prop := PC X op a b (tD c X.K δ fun d => ∃ k, d = .bool k ∧ B k)
abbrev DC (X : Cx) (c : Option Addr) (op : CmpOp) (a b : Expr) (δ : List Slot) (k : Bool) : Prop := EC X c op a b δ (Eq k)
theorem pc_of {op : CmpOp} {r : L2.R2} {ta tb : TE} (ho : OpR X (compareOp op) r) (ha : PE X a ta) (hb : PE X b tb) : PC X op a b (tOp r ta tb) := ⟨fun pins s σ H Q I h => binT ha hb I h fun v u s2 x y H2 I2 rx ry q => ho pins s2 σ H2 x y v u Q I2 rx ry q⟩
theorem pc_imp {op : CmpOp} {t t' : TE} (h : PC X op a b t) (k : ∀ σ H Q, t' σ H Q → t σ H Q) : PC X op a b t' := ⟨fun pins s σ H Q I q => h.run pins s σ H Q I (k σ H Q q)⟩
theorem ec_op {op : CmpOp} {r : L2.R2} (ho : OpR X (compareOp op) r) (ha : ED X c a δ Ra) (hb : ED X c b δ Rb)
    (h : ∀ (H : Hp) (v u : V) (d1 d2 : PyData) (Q : VK), Tp X.K H v d1 → Tp X.K H u d2 → Ra d1 → Rb d2 → (∀ k H', ExC c H H' → B k → Q (.bl k) H') → r v u H Q) : EC X c op a b δ B :=
  pc_imp (pc_of ho ha hb) fun σ H Q q => by
    obtain ⟨⟨H0, rp⟩, q⟩ := q
    refine ⟨⟨H0, rp⟩, fun v d1 H1 x1 t1 r1 => ⟨⟨H0, rp.mono x1⟩, fun u d2 H2 x2 t2 r2 => h H2 v u d1 d2 Q (Tp.te x2.te _ _ t1) t2 r1 r2 fun k H' x r => ?_⟩⟩
    exact q _ _ H' ((x1.trans x2).trans x) (.bl k) ⟨k, rfl, r⟩
theorem dc_int {op : CmpOp} {g : Int → Int → Bool} {i j : Int} (ho : OpR X (compareOp op) (rI0 fun i j => .bl (g i j))) (ha : DE X c a δ (.int i)) (hb : DE X c b δ (.int j)) : DC X c op a b δ (g i j) :=
  ec_op ho ha hb fun H v u d1 d2 Q t1 t2 e1 e2 q => by
    subst e1 e2
    cases t1
    cases t2
    exact ⟨i, j, rfl, rfl, q _ H ExC.refl rfl⟩
theorem dc_lt {i j : Int} (ha : DE X c a δ (.int i)) (hb : DE X c b δ (.int j)) : DC X c .Lt a b δ (decide (i < j)) := dc_int op_lt ha hb
theorem dc_le {i j : Int} (ha : DE X c a δ (.int i)) (hb : DE X c b δ (.int j)) : DC X c .LtE a b δ (decide (i ≤ j)) := dc_int op_le ha hb
theorem dc_gt {i j : Int} (ha : DE X c a δ (.int i)) (hb : DE X c b δ (.int j)) : DC X c .Gt a b δ (decide (j < i)) := dc_int op_gt ha hb
theorem dc_ge {i j : Int} (ha : DE X c a δ (.int i)) (hb : DE X c b δ (.int j)) : DC X c .GtE a b δ (decide (j ≤ i)) := dc_int op_ge ha hb
/-- == of data -/
theorem dc_eq (hu : X.A.units + 64 < cLine) (ha : DE X c a δ d1) (hb : DE X c b δ d2) (h1 : SeqAt.shaped d1 = true) (h2 : SeqAt.shaped d2 = true) : DC X c .Eq a b δ (PyData.eqv d1 d2) :=
  ec_op (op_eqD hu) ha hb fun H v u e1 e2 Q t1 t2 k1 k2 q => by
    subst k1 k2
    exact ⟨_, _, Tp.dp _ _ t1, Tp.dp _ _ t2, h1, h2, q _ H ExC.refl rfl⟩
theorem dc_ne (hu : X.A.units + 64 < cLine) (ha : DE X c a δ d1) (hb : DE X c b δ d2) (h1 : SeqAt.shaped d1 = true) (h2 : SeqAt.shaped d2 = true) : DC X c .NotEq a b δ (!PyData.eqv d1 d2) :=
  ec_op (op_neD hu) ha hb fun H v u e1 e2 Q t1 t2 k1 k2 q => by
    subst k1 k2
    exact ⟨_, _, Tp.dp _ _ t1, Tp.dp _ _ t2, h1, h2, q _ H ExC.refl rfl⟩
/-- of lists -/
theorem ec_opR {op : CmpOp} {r : L2.R2} (ho : OpR X (compareOp op) r) (ha : ER X c a δ La) (hb : ER X c b δ Lb)
    (h : ∀ (H : Hp) (p q : Addr) (vs us : List V) (d1 d2 : List PyData) (Q : VK), SqL X.K H p vs → SqL X.K H q us → TpAll X.K H vs d1 → TpAll X.K H us d2 → La d1 → Lb d2 → (∀ k H', ExC c H H' → B k → Q (.bl k) H') → r (.ref p) (.ref q) H Q) : EC X c op a b δ B :=
  pc_imp (pc_of ho ha hb) fun σ H Q q => by
    obtain ⟨⟨H0, rp⟩, q⟩ := q
    refine ⟨⟨H0, rp⟩, fun p vs d1 H1 n1 x1 s1 t1 r1 => ⟨⟨H0, rp.mono x1⟩, fun p2 us d2 H2 n2 x2 s2 t2 r2 => h H2 p p2 vs us d1 d2 Q (sqL_ex x2 n1 s1) s2 (TpAll.te x2.te _ _ t1) t2 r1 r2 fun k H' x r => ?_⟩⟩
    exact q _ _ H' ((x1.trans x2).trans x) (.bl k) ⟨k, rfl, r⟩
theorem dc_eqL (hu : X.A.units + 64 < cLine) (ha : DR X c a δ ds1) (hb : DR X c b δ ds2) (h1 : SeqAt.shaped (.list ds1) = true) (h2 : SeqAt.shaped (.list ds2) = true) : DC X c .Eq a b δ (PyData.eqv (.list ds1) (.list ds2)) :=
  ec_opR (op_eqD hu) ha hb fun H p q vs us e1 e2 Q s1 s2 t1 t2 k1 k2 k => by
    subst k1 k2
    exact ⟨_, _, .lst s1 (TpAll.dp _ _ t1), .lst s2 (TpAll.dp _ _ t2), h1, h2, k _ H ExC.refl rfl⟩
theorem dc_neL (hu : X.A.units + 64 < cLine) (ha : DR X c a δ ds1) (hb : DR X c b δ ds2) (h1 : SeqAt.shaped (.list ds1) = true) (h2 : SeqAt.shaped (.list ds2) = true) : DC X c .NotEq a b δ (!PyData.eqv (.list ds1) (.list ds2)) :=
  ec_opR (op_neD hu) ha hb fun H p q vs us e1 e2 Q s1 s2 t1 t2 k1 k2 k => by
    subst k1 k2
    exact ⟨_, _, .lst s1 (TpAll.dp _ _ t1), .lst s2 (TpAll.dp _ _ t2), h1, h2, k _ H ExC.refl rfl⟩
def isNone : PyData → Bool
  | .none => true
  | _ => false
theorem Tp.isNone {K : PySem.W.Frag} {H : Hp} {v : V} {d : PyData} (t : Tp K H v d) : decide (v = .non) = isNone d := by
  cases t with
  | non => rfl
  | bl => rfl
  | int => rfl
  | tup => rfl
theorem dc_isN {j p2} (ha : DE X c a δ d) : DC X c .Is a (.Constant .none j p2) δ (isNone d) := pc_imp (pc_isN ha) fun σ H Q q => by
  refine ⟨q.1, fun v e H1 x t k => ?_⟩
  subst k
  rw [t.isNone]
  exact q.2 _ _ H1 x (.bl _) ⟨_, rfl, rfl⟩
theorem dc_notN {j p2} (ha : DE X c a δ d) : DC X c .IsNot a (.Constant .none j p2) δ (!isNone d) := pc_imp (pc_notN ha) fun σ H Q q => by
  refine ⟨q.1, fun v e H1 x t k => ?_⟩
  subst k
  rw [t.isNone]
  exact q.2 _ _ H1 x (.bl _) ⟨_, rfl, rfl⟩
theorem ed_cmp {op : CmpOp} (h : EC X c op a b δ B) (h1 : behindInMarks op b = false := by first | exact nomark _ (by decide) (by decide) | rfl) : ED X c (.Compare a [op] [b] pos) δ (fun d => ∃ k, d = .bool k ∧ B k) := pe_cmp h h1
theorem de_cmp {op : CmpOp} {k : Bool} (h : DC X c op a b δ k) (h1 : behindInMarks op b = false := by first | exact nomark _ (by decide) (by decide) | rfl) : DE X c (.Compare a [op] [b] pos) δ (.bool k) := ED.mono (ed_cmp h h1) fun d ⟨k', e, e'⟩ => by subst e'; exact e.symm
theorem et_cmp {op : CmpOp} (h : EC X c op a b δ B) (h1 : behindInMarks op b = false := by first | exact nomark _ (by decide) (by decide) | rfl) : ET X c (.Compare a [op] [b] pos) δ B := pt_imp (pt_cmp h h1) fun σ H Q q => by
  refine ⟨q.1, fun v d H' x t ⟨k, e, r⟩ => ?_⟩
  subst e
  cases t
  exact ⟨k, rfl, q.2 k H' x r⟩
theorem dt_cmp {op : CmpOp} {k : Bool} (h : DC X c op a b δ k) (h1 : behindInMarks op b = false := by first | exact nomark _ (by decide) (by decide) | rfl) : DT X c (.Compare a [op] [b] pos) δ k := et_cmp h h1
/-- a op b op' e of ints -/
theorem de_chain {op op' : CmpOp} {g g' : Int → Int → Bool} {i j k : Int} (ho : OpR X (compareOp op) (rI0 fun i j => .bl (g i j))) (ho' : OpR X (compareOp op') (rI0 fun i j => .bl (g' i j))) (ha : DE X c a δ (.int i)) (hb : DE X c b δ (.int j)) (hc : DE X c e δ (.int k))
    (hm : lastMarks [op, op'] [b, e] = false := by with_unfolding_all rfl) : DE X c (.Compare a [op, op'] [b, e] pos) δ (.bool (g i j && g' j k)) := pe_imp (pe_chain ho ho' ha hb hc hm) fun σ H Q q => by
  obtain ⟨⟨H0, rp⟩, q⟩ := q
  refine ⟨⟨H0, rp⟩, fun v d1 H1 x1 t1 r1 => ⟨⟨H0, rp.mono x1⟩, fun u d2 H2 x2 t2 r2 => ?_⟩⟩
  subst r1 r2
  cases t1
  cases t2
  refine ⟨i, j, rfl, rfl, _, rfl, ?_⟩
  cases hg : g i j with
  | true =>
    refine ⟨⟨H0, (rp.mono x1).mono x2⟩, fun w d3 H3 x3 t3 r3 => ?_⟩
    subst r3
    cases t3
    exact ⟨j, k, rfl, rfl, q _ _ H3 ((x1.trans x2).trans x3) (.bl _) (by rw [hg]; rfl)⟩
  | false => exact q _ _ H2 (x1.trans x2) (.bl _) (by rw [hg]; rfl)
theorem dt_chain {op op' : CmpOp} {g g' : Int → Int → Bool} {i j k : Int} (ho : OpR X (compareOp op) (rI0 fun i j => .bl (g i j))) (ho' : OpR X (compareOp op') (rI0 fun i j => .bl (g' i j))) (ha : DE X c a δ (.int i)) (hb : DE X c b δ (.int j)) (hc : DE X c e δ (.int k))
    (hm : lastMarks [op, op'] [b, e] = false := by with_unfolding_all rfl) : DT X c (.Compare a [op, op'] [b, e] pos) δ (g i j && g' j k) := pt_imp (pt_chain ho ho' ha hb hc hm) fun σ H Q q => by
  obtain ⟨⟨H0, rp⟩, q⟩ := q
  refine ⟨⟨H0, rp⟩, fun v d1 H1 x1 t1 r1 => ⟨⟨H0, rp.mono x1⟩, fun u d2 H2 x2 t2 r2 => ?_⟩⟩
  subst r1 r2
  cases t1
  cases t2
  refine ⟨i, j, rfl, rfl, _, rfl, ?_⟩
  cases hg : g i j with
  | true =>
    refine ⟨⟨H0, (rp.mono x1).mono x2⟩, fun w d3 H3 x3 t3 r3 => ?_⟩
    subst r3
    cases t3
    exact ⟨j, k, rfl, rfl, _, rfl, q _ H3 ((x1.trans x2).trans x3) (by rw [hg]; rfl)⟩
  | false => exact ⟨_, rfl, q _ H2 (x1.trans x2) (by rw [hg]; rfl)⟩

/-! tests -/
theorem dt_val {k : Bool} (h : DE X c e δ (.bool k)) (he : ∀ whole, isTrue e X.env whole = (do let v ← whole; standAt e.pos; holding [v] (truthy v)) := by intro _; rfl) : DT X c e δ k := pt_imp (pt_val h he) fun σ H Q q => by
  refine ⟨q.1, fun v d H' x t r => ?_⟩
  subst r
  cases t
  exact ⟨k, rfl, q.2 k H' x rfl⟩
theorem et_val (h : ED X c e δ fun d => ∃ k, d = .bool k ∧ B k) (he : ∀ whole, isTrue e X.env whole = (do let v ← whole; standAt e.pos; holding [v] (truthy v)) := by intro _; rfl) : ET X c e δ B := pt_imp (pt_val h he) fun σ H Q q => by
  refine ⟨q.1, fun v d H' x t ⟨k, r, b⟩ => ?_⟩
  subst r
  cases t
  exact ⟨k, rfl, q.2 k H' x b⟩
theorem dt_not {k : Bool} (h : DT X c e δ k) : DT X c (.UnaryOp .Not e pos) δ (!k) := pt_imp (pt_not h) fun σ H Q q => ⟨q.1, fun b H' x r => q.2 (!b) H' x (by subst r; rfl)⟩
theorem dw_and1 {k : Bool} (h : DT X c a δ k) : DW X c (.BoolOp .And [a] pos) δ k := pw_and1 h
theorem dw_or1 {k : Bool} (h : DT X c a δ k) : DW X c (.BoolOp .Or [a] pos) δ k := pw_or1 h
theorem dw_and {k k' : Bool} {rest : List Expr} (h : DT X c a δ k) (h' : k = true → DW X c (.BoolOp .And (b :: rest) pos) δ k') : DW X c (.BoolOp .And (a :: b :: rest) pos) δ (k && k') :=
  pw_imp (pw_and h (pw_hyp h')) fun σ H Q q => by
    obtain ⟨⟨H0, rp⟩, q⟩ := q
    refine ⟨⟨H0, rp⟩, fun b1 H1 x1 r1 => ?_⟩
    subst r1
    cases k with
    | true => exact ⟨rfl, ⟨H0, rp.mono x1⟩, fun b2 H2 x2 r2 => q b2 H2 (x1.trans x2) (by subst r2; rfl)⟩
    | false => exact q false H1 x1 rfl
theorem dw_or {k k' : Bool} {rest : List Expr} (h : DT X c a δ k) (h' : k = false → DW X c (.BoolOp .Or (b :: rest) pos) δ k') : DW X c (.BoolOp .Or (a :: b :: rest) pos) δ (k || k') :=
  pw_imp (pw_or h (pw_hyp h')) fun σ H Q q => by
    obtain ⟨⟨H0, rp⟩, q⟩ := q
    refine ⟨⟨H0, rp⟩, fun b1 H1 x1 r1 => ?_⟩
    subst r1
    cases k with
    | false => exact ⟨rfl, ⟨H0, rp.mono x1⟩, fun b2 H2 x2 r2 => q b2 H2 (x1.trans x2) (by subst r2; rfl)⟩
    | true => exact q true H1 x1 rfl
theorem dt_w {k : Bool} (h : DW X c e δ k) : DT X c e δ k := PW.pt h
/-- .. as values -/
theorem de_one {op} (h : DE X c a δ d) : DE X c (.BoolOp op [a] pos) δ d := pe_one h
theorem de_and {k k' : Bool} {rest : List Expr} (h : DE X c a δ (.bool k)) (h' : k = true → DE X c (.BoolOp .And (b :: rest) pos) δ (.bool k')) : DE X c (.BoolOp .And (a :: b :: rest) pos) δ (.bool (k && k')) :=
  pe_imp (L2.pe_and h (pe_hyp h')) fun σ H Q q => by
    obtain ⟨⟨H0, rp⟩, q⟩ := q
    refine ⟨⟨H0, rp⟩, fun v d1 H1 x1 t1 r1 => ?_⟩
    subst r1
    cases t1
    refine ⟨k, rfl, ?_⟩
    cases k with
    | true => exact ⟨rfl, ⟨H0, rp.mono x1⟩, fun w d2 H2 x2 t2 r2 => q w d2 H2 (x1.trans x2) t2 (by subst r2; rfl)⟩
    | false => exact q _ _ H1 x1 (.bl _) rfl
theorem de_or {k k' : Bool} {rest : List Expr} (h : DE X c a δ (.bool k)) (h' : k = false → DE X c (.BoolOp .Or (b :: rest) pos) δ (.bool k')) : DE X c (.BoolOp .Or (a :: b :: rest) pos) δ (.bool (k || k')) :=
  pe_imp (L2.pe_or h (pe_hyp h')) fun σ H Q q => by
    obtain ⟨⟨H0, rp⟩, q⟩ := q
    refine ⟨⟨H0, rp⟩, fun v d1 H1 x1 t1 r1 => ?_⟩
    subst r1
    cases t1
    refine ⟨k, rfl, ?_⟩
    cases k with
    | false => exact ⟨rfl, ⟨H0, rp.mono x1⟩, fun w d2 H2 x2 t2 r2 => q w d2 H2 (x1.trans x2) t2 (by subst r2; rfl)⟩
    | true => exact q _ _ H1 x1 (.bl _) rfl
theorem de_not {k : Bool} (h : DE X c a δ (.bool k)) : DE X c (.UnaryOp .Not a pos) δ (.bool (!k)) := pe_imp (L2.pe_not h) fun σ H Q q => by
  refine ⟨q.1, fun v d H' x t r => ?_⟩
  subst r
  cases t
  exact ⟨k, rfl, q.2 _ _ H' x (.bl _) rfl⟩
/-- a if t else b -/
theorem ed_if {t : Expr} (ht : ET X c t δ B) (ha : B true → ED X c a δ R) (hb : B false → ED X c b δ R) : ED X c (.IfExp t a b pos) δ R :=
  pe_imp (pe_ifExp ht (pe_hyp ha) (pe_hyp hb)) fun σ H Q q => by
    obtain ⟨⟨H0, rp⟩, q⟩ := q
    refine ⟨⟨H0, rp⟩, fun k H1 x1 r1 => ?_⟩
    cases k with
    | true => exact ⟨r1, ⟨H0, rp.mono x1⟩, fun w d2 H2 x2 t2 r2 => q w d2 H2 (x1.trans x2) t2 r2⟩
    | false => exact ⟨r1, ⟨H0, rp.mono x1⟩, fun w d2 H2 x2 t2 r2 => q w d2 H2 (x1.trans x2) t2 r2⟩
theorem ef_if {t : Expr} (ht : ET X c t δ B) (ha : B true → EF X c a δ L) (hb : B false → EF X c b δ L) : EF X c (.IfExp t a b pos) δ L :=
  pe_imp (pe_ifExp ht (pe_hyp ha) (pe_hyp hb)) fun σ H Q q => by
    obtain ⟨⟨H0, rp⟩, q⟩ := q
    have nf : ∀ {H1 : Hp} {p : Addr}, ExC c H H1 → H1 p = none → H p = none := fun x n => x.back ((rp.mono x).fresh n).2 n
    refine ⟨⟨H0, rp⟩, fun k H1 x1 r1 => ?_⟩
    cases k with
    | true => exact ⟨r1, ⟨H0, rp.mono x1⟩, fun p vs ds H2 n x2 y t r => q p vs ds H2 (nf x1 n) (x1.trans x2) y t r⟩
    | false => exact ⟨r1, ⟨H0, rp.mono x1⟩, fun p vs ds H2 n x2 y t r => q p vs ds H2 (nf x1 n) (x1.trans x2) y t r⟩
end
end WL

set_option maxRecDepth 100000
set_option maxHeartbeats 4000000
namespace WL
open PySem PySem.Spec PyProof.Rows L2

section
variable {X : Cx} {c : Option Addr} {δ : List Slot} {e a b : Expr} {es : List Expr} {pos p p2 p3 : Pos} {R Ra Rb R' : PyData → Prop} {d d1 d2 : PyData} {L La Lb : List PyData → Prop} {ds ds1 ds2 : List PyData} {B : Bool → Prop} {x y : Str}

/-! arguments, displays -/
theorem da_nil : DA X c [] δ [] := pa_imp pa_nil fun _ H _ q => q.2 [] [] H ExC.refl .nil rfl
theorem ea_cons (h : ED X c e δ R) (hr : EA X c es δ L) (hs : starEach (e :: es) X.env = (false, eval e X.env) :: starEach es X.env := by rfl) : EA X c (e :: es) δ (fun ds => ∃ d r, ds = d :: r ∧ R d ∧ L r) :=
  pa_imp (pa_cons h hr hs) fun σ H Q q => by
    obtain ⟨⟨H0, rp⟩, q⟩ := q
    exact ⟨⟨H0, rp⟩, fun v d H1 x1 t1 r1 => ⟨⟨H0, rp.mono x1⟩, fun vs ds H2 x2 t2 r2 => q _ _ H2 (x1.trans x2) (.cons (Tp.te x2.te _ _ t1) t2) ⟨d, ds, rfl, r1, r2⟩⟩⟩
theorem da_cons (h : DE X c e δ d) (hr : DA X c es δ ds) (hs : starEach (e :: es) X.env = (false, eval e X.env) :: starEach es X.env := by rfl) : DA X c (e :: es) δ (d :: ds) :=
  pa_imp (ea_cons h hr hs) fun σ H Q q => ⟨q.1, fun vs es H' x t ⟨d', r', k, k1, k2⟩ => q.2 vs es H' x t (by subst k1 k2; exact k.symm)⟩
theorem da_star (h : DE X c e δ (.tuple ds1)) (hr : DA X c es δ ds2) (hs : starEach (.Starred e p :: es) X.env = (true, eval e X.env) :: starEach es X.env := by rfl) : DA X c (.Starred e p :: es) δ (ds1 ++ ds2) :=
  pa_imp (StX.pa_star h hr hs) fun σ H Q q => by
    obtain ⟨⟨H0, rp⟩, q⟩ := q
    refine ⟨⟨H0, rp⟩, fun v d H1 x1 t1 r1 => ?_⟩
    subst r1
    cases t1 with
    | tup s1 a1 => exact ⟨_, _, rfl, .inl s1, ⟨H0, rp.mono x1⟩, fun vs ds H2 x2 t2 r2 => q _ _ H2 (x1.trans x2) (TpAll.append (TpAll.te x2.te _ _ a1) t2) (by rw [r2])⟩
theorem da_starR (h : DR X c e δ ds1) (hr : DA X c es δ ds2) (hs : starEach (.Starred e p :: es) X.env = (true, eval e X.env) :: starEach es X.env := by rfl) : DA X c (.Starred e p :: es) δ (ds1 ++ ds2) :=
  pa_imp (StX.pa_star h hr hs) fun σ H Q q => by
    obtain ⟨⟨H0, rp⟩, q⟩ := q
    refine ⟨⟨H0, rp⟩, fun p vs d H1 n1 x1 s1 t1 r1 => ?_⟩
    subst r1
    exact ⟨_, _, rfl, .inr s1, ⟨H0, rp.mono x1⟩, fun ws ds H2 x2 t2 r2 => q _ _ H2 (x1.trans x2) (TpAll.append (TpAll.te x2.te _ _ t1) t2) (by rw [r2])⟩
theorem line5 {n : Nat} (h : n ≤ 100000) : n ≤ sizeLine := Nat.le_trans h (by decide)
theorem ed_tup {x1} (h : EA X c es δ L) (hl : ∀ ds, L ds → ds.length ≤ 100000) : ED X c (.Tuple es x1 pos) δ (fun d => ∃ ds, d = .tuple ds ∧ L ds) := pe_imp (pe_tup h) fun σ H Q q => by
  refine ⟨q.1, fun vs ds H1 x1 t1 r1 => ⟨line5 (by rw [t1.len]; exact hl ds r1), fun p hp => ?_⟩⟩
  have x : ExC c H1 (upd H1 p (.tup vs)) := ExC.new hp
  exact q.2 _ _ _ (x1.trans x) (.tup (SqT.of upd_same) (TpAll.te x.te _ _ t1)) ⟨ds, rfl, r1⟩
theorem de_tup {x1} (h : DA X c es δ ds) (hl : ds.length ≤ 100000) : DE X c (.Tuple es x1 pos) δ (.tuple ds) := ED.mono (ed_tup h fun ds' k => by subst k; exact hl) fun d ⟨ds', k, k'⟩ => by subst k'; exact k.symm
theorem ef_lst (h : EA X c es δ L) (hl : ∀ ds, L ds → ds.length ≤ 100000) : EF X c (.List es pos) δ L := pe_imp (pe_lst h) fun σ H Q q => by
  obtain ⟨⟨H0, rp⟩, q⟩ := q
  refine ⟨⟨H0, rp⟩, fun vs ds H1 x1 t1 r1 => ⟨line5 (by rw [t1.len]; exact hl ds r1), fun p hp => ?_⟩⟩
  have x : ExC c H1 (upd H1 p (.lst vs)) := ExC.new hp
  exact q p vs ds _ (x1.back ((rp.mono x1).fresh hp).2 hp) (x1.trans x) upd_same (TpAll.te x.te _ _ t1) r1
theorem df_lst (h : DA X c es δ ds) (hl : ds.length ≤ 100000) : DF X c (.List es pos) δ ds := ef_lst h fun ds' k => by subst k; exact hl

/-! items, slices -/
theorem atI_tp {K : PySem.W.Frag} {H : Hp} {vs : List V} {i : Int} (t : TpAll K H vs ds) (h : atI ds i = some d) : ∃ v, atI vs i = some v ∧ Tp K H v d := by
  unfold atI at h ⊢
  rw [t.len]
  cases e : ixN ds.length i with
  | none =>
    rw [e] at h
    cases h
  | some j =>
    rw [e] at h
    exact t.getD h
theorem ed_ix {P : Int → Prop} (ha : DE X c a δ (.tuple ds)) (hb : ED X c b δ fun d => ∃ i, d = .int i ∧ P i) (h : ∀ i, P i → ∃ d, atI ds i = some d ∧ R d) (hs : PlainIx b := by exact fun _ _ => rfl) : ED X c (.Subscript a b pos) δ R :=
  pe_imp (pe_ix ix_tup ha hb hs) fun σ H Q q => by
    obtain ⟨⟨H0, rp⟩, q⟩ := q
    refine ⟨⟨H0, rp⟩, fun v e1 H1 x1 t1 r1 => ⟨⟨H0, rp.mono x1⟩, fun u e2 H2 x2 t2 ⟨i, r2, k⟩ => ?_⟩⟩
    subst r1 r2
    cases t2
    cases t1 with
    | tup s1 a1 =>
      obtain ⟨d, hd, hR⟩ := h i k
      obtain ⟨w, hw, tw⟩ := atI_tp (TpAll.te x2.te _ _ a1) hd
      exact ⟨_, _, i, w, rfl, rfl, x2.te.t s1, hw, q w d H2 (x1.trans x2) tw hR⟩
theorem de_ix {i : Int} (ha : DE X c a δ (.tuple ds)) (hb : DE X c b δ (.int i)) (h : atI ds i = some d) (hs : PlainIx b := by exact fun _ _ => rfl) : DE X c (.Subscript a b pos) δ d :=
  ed_ix ha (DE.i hb) (fun j k => ⟨d, by rw [k]; exact h, rfl⟩) hs
theorem ed_ixR {P : Int → Prop} (ha : ER X c a δ L) (hb : ED X c b δ fun d => ∃ i, d = .int i ∧ P i) (h : ∀ ds i, L ds → P i → ∃ d, atI ds i = some d ∧ R d) (hs : PlainIx b := by exact fun _ _ => rfl) : ED X c (.Subscript a b pos) δ R :=
  pe_imp (pe_ix ix_list ha hb hs) fun σ H Q q => by
    obtain ⟨⟨H0, rp⟩, q⟩ := q
    refine ⟨⟨H0, rp⟩, fun p vs e1 H1 n1 x1 s1 t1 r1 => ⟨⟨H0, rp.mono x1⟩, fun u e2 H2 x2 t2 ⟨i, r2, k⟩ => ?_⟩⟩
    subst r2
    cases t2
    obtain ⟨d, hd, hR⟩ := h e1 i r1 k
    obtain ⟨w, hw, tw⟩ := atI_tp (TpAll.te x2.te _ _ t1) hd
    exact ⟨_, _, i, w, rfl, rfl, sqL_ex x2 n1 s1, hw, q w d H2 (x1.trans x2) tw hR⟩
theorem de_ixR {i : Int} (ha : DR X c a δ ds) (hb : DE X c b δ (.int i)) (h : atI ds i = some d) (hs : PlainIx b := by exact fun _ _ => rfl) : DE X c (.Subscript a b pos) δ d :=
  ed_ixR ha (DE.i hb) (fun ds' j k' k => ⟨d, by subst k'; rw [k]; exact h, rfl⟩) hs
theorem dp_none : EP_ X c none δ none := ⟨fun pins s σ H Q I q => po_none.run pins s σ H Q I (q.2 H ExC.refl)⟩
theorem dp_some {i : Int} (h : DE X c e δ (.int i)) : EP_ X c (some e) δ (some i) := ⟨fun pins s σ H Q I q => (po_some h).run pins s σ H Q I ⟨q.1, fun v d H1 x1 t1 r1 => by
  subst r1
  cases t1
  exact ⟨i, rfl, q.2 H1 x1⟩⟩⟩
def cutG {α : Type} (xs : List α) (lo hi : Option Int) : List α := (xs.drop (HT.sIx xs.length 0 lo)).take (HT.sIx xs.length xs.length hi - HT.sIx xs.length 0 lo)
theorem cut_tp {K : PySem.W.Frag} {H : Hp} {vs : List V} (t : TpAll K H vs ds) (lo hi : Option Int) : TpAll K H (cutV vs lo hi) (cutG ds lo hi) := by
  unfold cutV cutG
  rw [t.len]
  exact TpAll.take _ (TpAll.drop _ t)
theorem cut_all {α : Type} {xs : List α} {lo hi : Option Int} (h : HT.sIx xs.length 0 lo = 0 ∧ HT.sIx xs.length xs.length hi = xs.length) : cutG xs lo hi = xs := by
  unfold cutG
  rw [h.1, h.2, List.drop_zero, Nat.sub_zero, List.take_length]
theorem de_cut {lo hi : Option Expr} {l h : Option Int} (ha : DE X c a δ (.tuple ds)) (hl : EP_ X c lo δ l) (hh : EP_ X c hi δ h) : DE X c (.Subscript a (.Slice lo hi none p2) pos) δ (.tuple (cutG ds l h)) :=
  pe_imp (pe_slice sl_tupA ha hl hh) fun σ H Q q => by
    obtain ⟨⟨H0, rp⟩, q⟩ := q
    refine ⟨⟨H0, rp⟩, fun v e1 H1 x1 t1 r1 => ⟨⟨H0, rp.mono x1⟩, fun H2 x2 => ⟨⟨H0, (rp.mono x1).mono x2⟩, fun H3 x3 => ?_⟩⟩⟩
    subst r1
    cases t1 with
    | @tup p1 xs _ s1 a1 =>
      have x23 := x2.trans x3
      have a3 := TpAll.te x23.te _ _ a1
      refine ⟨_, _, rfl, x23.te.t s1, fun w => ?_, fun _ p hp => ?_⟩
      · rw [a1.len] at w
        rw [cut_all w] at q
        exact q _ _ H3 (x1.trans x23) (.tup (x23.te.t s1) a3) rfl
      · have x : ExC c H3 (upd H3 p (.tup (cutV xs l h))) := ExC.new hp
        exact q _ _ _ ((x1.trans x23).trans x) (.tup (SqT.of upd_same) (TpAll.te x.te _ _ (cut_tp a3 l h))) rfl
theorem ef_cutR {lo hi : Option Expr} {l h : Option Int} (ha : ER X c a δ L) (hl : EP_ X c lo δ l) (hh : EP_ X c hi δ h) : EF X c (.Subscript a (.Slice lo hi none p2) pos) δ (fun es => ∃ ds, L ds ∧ es = cutG ds l h) :=
  pe_imp (pe_slice sl_list ha hl hh) fun σ H Q q => by
    obtain ⟨⟨H0, rp⟩, q⟩ := q
    refine ⟨⟨H0, rp⟩, fun p1 vs e1 H1 n1 x1 s1 t1 r1 => ⟨⟨H0, rp.mono x1⟩, fun H2 x2 => ⟨⟨H0, (rp.mono x1).mono x2⟩, fun H3 x3 => ?_⟩⟩⟩
    have x23 := x2.trans x3
    have a3 := TpAll.te x23.te _ _ t1
    refine ⟨_, _, rfl, sqL_ex x23 n1 s1, fun p hp => ?_⟩
    have x : ExC c H3 (upd H3 p (.lst (cutV vs l h))) := ExC.new hp
    have x13 := x1.trans x23
    exact q p _ _ _ (x13.back ((rp.mono x13).fresh hp).2 hp) (x13.trans x) upd_same (TpAll.te x.te _ _ (cut_tp a3 l h)) ⟨e1, r1, rfl⟩
theorem de_rev {k : Nat} (ha : DE X c a δ (.tuple ds)) : DE X c (.Subscript a (.Slice none none (some (.UnaryOp .USub (.Constant (.int 1) k p) p2)) p3) pos) δ (.tuple ds.reverse) := pe_imp (pe_revT ha) fun σ H Q q => by
  refine ⟨q.1, fun v e1 H1 x1 t1 r1 => ?_⟩
  subst r1
  cases t1 with
  | @tup p1 xs _ s1 a1 =>
    refine ⟨_, _, rfl, s1, fun p hp => ?_⟩
    have x : ExC c H1 (upd H1 p (.tup xs.reverse)) := ExC.new hp
    exact q.2 _ _ _ (x1.trans x) (.tup (SqT.of upd_same) (TpAll.te x.te _ _ a1.rev)) rfl
theorem ef_revR {k : Nat} (ha : ER X c a δ L) : EF X c (.Subscript a (.Slice none none (some (.UnaryOp .USub (.Constant (.int 1) k p) p2)) p3) pos) δ (fun es => ∃ ds, L ds ∧ es = ds.reverse) := pe_imp (pe_revL ha) fun σ H Q q => by
  obtain ⟨⟨H0, rp⟩, q⟩ := q
  refine ⟨⟨H0, rp⟩, fun p1 vs e1 H1 n1 x1 s1 t1 r1 => ⟨_, _, rfl, s1, fun p hp => ?_⟩⟩
  have x : ExC c H1 (upd H1 p (.lst vs.reverse)) := ExC.new hp
  exact q p _ _ _ (x1.back ((rp.mono x1).fresh hp).2 hp) (x1.trans x) upd_same (TpAll.te x.te _ _ t1.rev) ⟨e1, r1, rfl⟩
/-- new lists, one behind the other -/
theorem ef_cat (ha : EF X c a δ La) (hb : EF X c b δ Lb) (hl : ∀ ds es, La ds → Lb es → ds.length + es.length ≤ 100000) : EF X c (.BinOp a .Add b pos) δ (fun fs => ∃ ds es, La ds ∧ Lb es ∧ fs = ds ++ es) :=
  pe_imp (pe_op op_cat ha hb) fun σ H Q q => by
    obtain ⟨⟨H0, rp⟩, q⟩ := q
    refine ⟨⟨H0, rp⟩, fun p1 vs d1 H1 f1 x1 y1 t1 r1 => ⟨⟨H0, rp.mono x1⟩, fun p2 us d2 H2 f2 x2 y2 t2 r2 => ?_⟩⟩
    have t1' := TpAll.te x2.te _ _ t1
    refine ⟨_, _, _, _, rfl, rfl, x2.ex _ _ (rp.fresh f1).2 y1, y2, line5 (by rw [t1.len, t2.len]; exact hl _ _ r1 r2), fun p hp => ?_⟩
    have x : ExC c H2 (upd H2 p (.lst (vs ++ us))) := ExC.new hp
    have x12 := x1.trans x2
    exact q p _ _ _ (x12.back ((rp.mono x12).fresh hp).2 hp) (x12.trans x) upd_same (TpAll.te x.te _ _ (t1'.append t2)) ⟨d1, d2, r1, r2, rfl⟩

/-! calls of built-ins -/
theorem ed_callB {id : String} {r : List V → Hp → VK → Prop} (hc : CallR X (.builtin id) r) (hg : Gl X x) (hm : X.mg x = none) (hv : bootBuiltins x = some (.builtin id)) (ha : EA X c (e :: es) δ L)
    (h : ∀ (H : Hp) (vs : List V) (ds : List PyData) (Q : VK), TpAll X.K H vs ds → L ds → (∀ w d H', ExC c H H' → Tp X.K H' w d → R d → Q w H') → r vs H Q)
    (hn : x ≠ "__name__" := by decide) (hdb : (x == ("__debug__" : Str)) = false := by decide) (he : starEach (e :: es) X.env = (false, eval e X.env) :: starEach es X.env := by rfl) (hpl : (backTo pos (starEach es X.env)).any (·.1) = false := by rfl) :
    ED X c (.Call (.Name x p) (e :: es) [] pos) δ R := pe_imp (pe_callB hc hg hm hv ha hn hdb he hpl) fun σ H Q q => by
  refine ⟨q.1, fun vs ds H1 x1 t1 r1 => h H1 vs ds Q t1 r1 fun w d H' x' t r => q.2 w d H' (x1.trans x') t r⟩
/-- one argument, a list -/
def tAR (c : Option Addr) (K : PySem.W.Frag) (δ : List Slot) (L : List PyData → Prop) : TA := fun σ H Q => (∃ H0, Rep c K H0 H σ δ) ∧ ∀ p vs ds H', c ≠ some p → ExC c H H' → SqL K H' p vs → TpAll K H' vs ds → L ds → Q [.ref p] H'
theorem ar_one (h : ER X c e δ L) (hs : starEach (e :: []) X.env = (false, eval e X.env) :: starEach [] X.env := by rfl) : PA X [e] (tAR c X.K δ L) := pa_imp (pa_cons h pa_nil hs) fun σ H Q q => q
theorem ed_callBR {id : String} {r : List V → Hp → VK → Prop} (hc : CallR X (.builtin id) r) (hg : Gl X x) (hm : X.mg x = none) (hv : bootBuiltins x = some (.builtin id)) (ha : PA X [e] (tAR c X.K δ L))
    (h : ∀ (H : Hp) (q : Addr) (vs : List V) (ds : List PyData) (Q : VK), SqL X.K H q vs → TpAll X.K H vs ds → L ds → (∀ w d H', ExC c H H' → Tp X.K H' w d → R d → Q w H') → r [.ref q] H Q)
    (hn : x ≠ "__name__" := by decide) (hdb : (x == ("__debug__" : Str)) = false := by decide) (he : starEach [e] X.env = (false, eval e X.env) :: starEach [] X.env := by rfl) (hpl : (backTo pos (starEach [] X.env)).any (·.1) = false := by rfl) :
    ED X c (.Call (.Name x p) [e] [] pos) δ R := pe_imp (pe_callB hc hg hm hv ha hn hdb he hpl) fun σ H Q q => by
  refine ⟨q.1, fun p1 vs ds H1 n1 x1 s1 t1 r1 => h H1 p1 vs ds Q s1 t1 r1 fun w d H' x' t r => q.2 w d H' (x1.trans x') t r⟩
theorem ef_callBR {id : String} {r : List V → Hp → VK → Prop} (hc : CallR X (.builtin id) r) (hg : Gl X x) (hm : X.mg x = none) (hv : bootBuiltins x = some (.builtin id)) (ha : PA X [e] (tAR c X.K δ La))
    (h : ∀ (H : Hp) (q : Addr) (vs : List V) (ds : List PyData) (Q : VK), SqL X.K H q vs → TpAll X.K H vs ds → La ds → (∀ p us es, H p = none → TpAll X.K (upd H p (.lst us)) us es → L es → Q (.ref p) (upd H p (.lst us))) → r [.ref q] H Q)
    (hn : x ≠ "__name__" := by decide) (hdb : (x == ("__debug__" : Str)) = false := by decide) (he : starEach [e] X.env = (false, eval e X.env) :: starEach [] X.env := by rfl) (hpl : (backTo pos (starEach [] X.env)).any (·.1) = false := by rfl) :
    EF X c (.Call (.Name x p) [e] [] pos) δ L := pe_imp (pe_callB hc hg hm hv ha hn hdb he hpl) fun σ H Q q => by
  obtain ⟨⟨H0, rp⟩, q⟩ := q
  refine ⟨⟨H0, rp⟩, fun p1 vs ds H1 n1 x1 s1 t1 r1 => h H1 p1 vs ds Q s1 t1 r1 fun p us es hp t r => ?_⟩
  exact q p us es _ (x1.back ((rp.mono x1).fresh hp).2 hp) (x1.trans (ExC.new hp)) upd_same t r
theorem de_len (hg : Gl X x) (hm : X.mg x = none) (hv : bootBuiltins x = some (.builtin "len")) (ha : DA X c [a] δ [.tuple ds])
    (hn : x ≠ "__name__" := by decide) (hdb : (x == ("__debug__" : Str)) = false := by decide) (he : starEach [a] X.env = (false, eval a X.env) :: starEach [] X.env := by rfl) (hpl : (backTo pos (starEach [] X.env)).any (·.1) = false := by rfl) :
    DE X c (.Call (.Name x p) [a] [] pos) δ (.int ds.length) := ed_callB call_len_seq hg hm hv ha (fun H vs es Q t k q => by
  subst k
  cases t with
  | cons t1 t2 =>
    cases t2
    cases t1 with
    | tup s1 a1 => exact ⟨_, _, rfl, .inr s1, by rw [a1.len]; exact q _ _ H ExC.refl (.int _) rfl⟩) hn hdb he hpl
theorem ed_lenR (hg : Gl X x) (hm : X.mg x = none) (hv : bootBuiltins x = some (.builtin "len")) (ha : PA X [a] (tAR c X.K δ L))
    (hn : x ≠ "__name__" := by decide) (hdb : (x == ("__debug__" : Str)) = false := by decide) (he : starEach [a] X.env = (false, eval a X.env) :: starEach [] X.env := by rfl) (hpl : (backTo pos (starEach [] X.env)).any (·.1) = false := by rfl) :
    ED X c (.Call (.Name x p) [a] [] pos) δ (fun d => ∃ ds, L ds ∧ d = .int ds.length) := ed_callBR call_len_seq hg hm hv ha (fun H p vs es Q s t k q =>
  ⟨_, _, rfl, .inl s, by rw [t.len]; exact q _ _ H ExC.refl (.int _) ⟨es, k, rfl⟩⟩) hn hdb he hpl
theorem de_lenR (hg : Gl X x) (hm : X.mg x = none) (hv : bootBuiltins x = some (.builtin "len")) (ha : PA X [a] (tAR c X.K δ (Eq ds)))
    (hn : x ≠ "__name__" := by decide) (hdb : (x == ("__debug__" : Str)) = false := by decide) (he : starEach [a] X.env = (false, eval a X.env) :: starEach [] X.env := by rfl) (hpl : (backTo pos (starEach [] X.env)).any (·.1) = false := by rfl) :
    DE X c (.Call (.Name x p) [a] [] pos) δ (.int ds.length) := ED.mono (ed_lenR hg hm hv ha hn hdb he hpl) fun d ⟨ds', k, k'⟩ => by subst k; exact k'.symm
theorem de_sumT {ns : List Int} (hc : X.calm = true) (hg : Gl X x) (hm : X.mg x = none) (hv : bootBuiltins x = some (.builtin "sum")) (ha : DA X c [a] δ [.tuple (ns.map .int)])
    (hn : x ≠ "__name__" := by decide) (hdb : (x == ("__debug__" : Str)) = false := by decide) (he : starEach [a] X.env = (false, eval a X.env) :: starEach [] X.env := by rfl) (hpl : (backTo pos (starEach [] X.env)).any (·.1) = false := by rfl) :
    DE X c (.Call (.Name x p) [a] [] pos) δ (.int ns.sum) := ed_callB (cr_sumT hc) hg hm hv ha (fun H vs es Q t k q => by
  subst k
  cases t with
  | cons t1 t2 =>
    cases t2
    cases t1 with
    | tup s1 a1 =>
      rw [a1.ints] at s1
      exact ⟨_, ns, rfl, s1, q _ _ H ExC.refl (.int _) rfl⟩) hn hdb he hpl
theorem de_maxT {n : Int} {ns : List Int} (hc : X.calm = true) (hu : X.A.units + 1 < cLine) (hg : Gl X x) (hm : X.mg x = none) (hv : bootBuiltins x = some (.builtin "max")) (ha : DA X c [a] δ [.tuple ((n :: ns).map .int)])
    (hn : x ≠ "__name__" := by decide) (hdb : (x == ("__debug__" : Str)) = false := by decide) (he : starEach [a] X.env = (false, eval a X.env) :: starEach [] X.env := by rfl) (hpl : (backTo pos (starEach [] X.env)).any (·.1) = false := by rfl) :
    DE X c (.Call (.Name x p) [a] [] pos) δ (.int (ns.foldl max n)) := ed_callB (cr_maxT hc hu) hg hm hv ha (fun H vs es Q t k q => by
  subst k
  cases t with
  | cons t1 t2 =>
    cases t2
    cases t1 with
    | tup s1 a1 =>
      rw [a1.ints] at s1
      exact ⟨_, n, ns, rfl, s1, q _ _ H ExC.refl (.int _) rfl⟩) hn hdb he hpl
theorem de_maxR {m : Int} {ns : List Int} (hc : X.calm = true) (hg : Gl X x) (hm : X.mg x = none) (hv : bootBuiltins x = some (.builtin "max")) (ha : PA X [a] (tAR c X.K δ (Eq (ns.map .int)))) (h1 : m ∈ ns) (h2 : ∀ y ∈ ns, y ≤ m)
    (hn : x ≠ "__name__" := by decide) (hdb : (x == ("__debug__" : Str)) = false := by decide) (he : starEach [a] X.env = (false, eval a X.env) :: starEach [] X.env := by rfl) (hpl : (backTo pos (starEach [] X.env)).any (·.1) = false := by rfl) :
    DE X c (.Call (.Name x p) [a] [] pos) δ (.int m) := ed_callBR (cr_max hc) hg hm hv ha (fun H p vs es Q s t k q => by
  subst k
  rw [t.ints] at s
  refine ⟨_, ns, rfl, s, List.length_pos_of_mem h1, fun m' g1 g2 => ?_⟩
  have e : m' = m := Int.le_antisymm (h2 m' g1) (g2 m h1)
  rw [e]
  exact q _ _ H ExC.refl (.int _) rfl) hn hdb he hpl
theorem de_minR {m : Int} {ns : List Int} (hc : X.calm = true) (hg : Gl X x) (hm : X.mg x = none) (hv : bootBuiltins x = some (.builtin "min")) (ha : PA X [a] (tAR c X.K δ (Eq (ns.map .int)))) (h1 : m ∈ ns) (h2 : ∀ y ∈ ns, m ≤ y)
    (hn : x ≠ "__name__" := by decide) (hdb : (x == ("__debug__" : Str)) = false := by decide) (he : starEach [a] X.env = (false, eval a X.env) :: starEach [] X.env := by rfl) (hpl : (backTo pos (starEach [] X.env)).any (·.1) = false := by rfl) :
    DE X c (.Call (.Name x p) [a] [] pos) δ (.int m) := ed_callBR (cr_min hc) hg hm hv ha (fun H p vs es Q s t k q => by
  subst k
  rw [t.ints] at s
  refine ⟨_, ns, rfl, s, List.length_pos_of_mem h1, fun m' g1 g2 => ?_⟩
  have e : m' = m := Int.le_antisymm (g2 m h1) (h2 m' g1)
  rw [e]
  exact q _ _ H ExC.refl (.int _) rfl) hn hdb he hpl
theorem de_max2 {i j : Int} (hc : X.calm = true) (hg : Gl X x) (hm : X.mg x = none) (hv : bootBuiltins x = some (.builtin "max")) (ha : DA X c [a, b] δ [.int i, .int j])
    (hn : x ≠ "__name__" := by decide) (hdb : (x == ("__debug__" : Str)) = false := by decide) (he : starEach [a, b] X.env = (false, eval a X.env) :: starEach [b] X.env := by rfl) (hpl : (backTo pos (starEach [b] X.env)).any (·.1) = false := by rfl) :
    DE X c (.Call (.Name x p) [a, b] [] pos) δ (.int (if j > i then j else i)) := ed_callB (call_max2 hc) hg hm hv ha (fun H vs es Q t k q => by
  subst k
  cases t with
  | cons t1 t2 =>
    cases t2 with
    | cons t2 t3 =>
      cases t3
      cases t1
      cases t2
      exact ⟨i, j, rfl, q _ _ H ExC.refl (.int _) rfl⟩) hn hdb he hpl
theorem ed_min2 {P1 P2 : Int → Prop} (hc : X.calm = true) (hg : Gl X x) (hm : X.mg x = none) (hv : bootBuiltins x = some (.builtin "min")) (ha : EA X c [a, b] δ fun ds => ∃ i j, ds = [.int i, .int j] ∧ P1 i ∧ P2 j)
    (hn : x ≠ "__name__" := by decide) (hdb : (x == ("__debug__" : Str)) = false := by decide) (he : starEach [a, b] X.env = (false, eval a X.env) :: starEach [b] X.env := by rfl) (hpl : (backTo pos (starEach [b] X.env)).any (·.1) = false := by rfl) :
    ED X c (.Call (.Name x p) [a, b] [] pos) δ (fun d => ∃ i j, d = .int (if j < i then j else i) ∧ P1 i ∧ P2 j) := ed_callB (call_min2 hc) hg hm hv ha (fun H vs es Q t ⟨i, j, k, k1, k2⟩ q => by
  subst k
  cases t with
  | cons t1 t2 =>
    cases t2 with
    | cons t2 t3 =>
      cases t3
      cases t1
      cases t2
      exact ⟨i, j, rfl, q _ _ H ExC.refl (.int _) ⟨i, j, rfl, k1, k2⟩⟩) hn hdb he hpl
theorem ed_allR (hc : X.calm = true) (hg : Gl X x) (hm : X.mg x = none) (hv : bootBuiltins x = some (.builtin "all")) (ha : PA X [a] (tAR c X.K δ fun ds => ∃ bs : List Bool, ds = bs.map .bool ∧ B (bs.all id)))
    (hn : x ≠ "__name__" := by decide) (hdb : (x == ("__debug__" : Str)) = false := by decide) (he : starEach [a] X.env = (false, eval a X.env) :: starEach [] X.env := by rfl) (hpl : (backTo pos (starEach [] X.env)).any (·.1) = false := by rfl) :
    ED X c (.Call (.Name x p) [a] [] pos) δ (fun d => ∃ k, d = .bool k ∧ B k) := ed_callBR (cr_all hc) hg hm hv ha (fun H p vs es Q s t ⟨bs, k, k'⟩ q => by
  subst k
  rw [t.bls] at s
  exact ⟨_, bs, rfl, s, q _ _ H ExC.refl (.bl _) ⟨_, rfl, k'⟩⟩) hn hdb he hpl
theorem ed_anyR (hc : X.calm = true) (hg : Gl X x) (hm : X.mg x = none) (hv : bootBuiltins x = some (.builtin "any")) (ha : PA X [a] (tAR c X.K δ fun ds => ∃ bs : List Bool, ds = bs.map .bool ∧ B (bs.any id)))
    (hn : x ≠ "__name__" := by decide) (hdb : (x == ("__debug__" : Str)) = false := by decide) (he : starEach [a] X.env = (false, eval a X.env) :: starEach [] X.env := by rfl) (hpl : (backTo pos (starEach [] X.env)).any (·.1) = false := by rfl) :
    ED X c (.Call (.Name x p) [a] [] pos) δ (fun d => ∃ k, d = .bool k ∧ B k) := ed_callBR (cr_any hc) hg hm hv ha (fun H p vs es Q s t ⟨bs, k, k'⟩ q => by
  subst k
  rw [t.bls] at s
  exact ⟨_, bs, rfl, s, q _ _ H ExC.refl (.bl _) ⟨_, rfl, k'⟩⟩) hn hdb he hpl
/-- sorted of a list of ints -/
theorem ef_sortedR (hg : Gl X x) (hm : X.mg x = none) (hv : bootBuiltins x = some (.builtin "sorted")) (ha : PA X [a] (tAR c X.K δ fun ds => ∃ ns : List Int, ds = ns.map .int ∧ ns.length < 64 ∧ La ds))
    (hn : x ≠ "__name__" := by decide) (hdb : (x == ("__debug__" : Str)) = false := by decide) (he : starEach [a] X.env = (false, eval a X.env) :: starEach [] X.env := by rfl) (hpl : (backTo pos (starEach [] X.env)).any (·.1) = false := by rfl) :
    EF X c (.Call (.Name x p) [a] [] pos) δ (fun es => ∃ ns ms : List Int, La (ns.map .int) ∧ es = ms.map .int ∧ ms.Perm ns ∧ ms.Pairwise (· ≤ ·)) := ef_callBR cr_sorted hg hm hv ha (fun H p vs es Q s t ⟨ns, k, k', k''⟩ q => by
  subst k
  rw [t.ints] at s
  exact ⟨_, ns, rfl, s, k', fun ms p h1 h2 hp => q p _ (ms.map .int) hp (TpAll.of_ints ms) ⟨ns, ms, k'', rfl, h1, h2⟩⟩) hn hdb he hpl

/-! built-in classes -/
theorem ed_callTyR {T : String} {r : List V → Hp → VK → Prop} (hc : CallR X (.type T) r) (hg : Gl X x) (hm : X.mg x = none) (hv : bootBuiltins x = some (.type T)) (ha : PA X [e] (tAR c X.K δ L))
    (h : ∀ (H : Hp) (q : Addr) (vs : List V) (ds : List PyData) (Q : VK), SqL X.K H q vs → TpAll X.K H vs ds → L ds → (∀ w d H', ExC c H H' → Tp X.K H' w d → R d → Q w H') → r [.ref q] H Q)
    (hn : x ≠ "__name__" := by decide) (hdb : (x == ("__debug__" : Str)) = false := by decide) (he : starEach [e] X.env = (false, eval e X.env) :: starEach [] X.env := by rfl) (hpl : (backTo pos (starEach [] X.env)).any (·.1) = false := by rfl) :
    ED X c (.Call (.Name x p) [e] [] pos) δ R := pe_imp (pe_callTy hc hg hm hv ha hn hdb he hpl) fun σ H Q q => by
  refine ⟨q.1, fun p1 vs ds H1 n1 x1 s1 t1 r1 => h H1 p1 vs ds Q s1 t1 r1 fun w d H' x' t r => q.2 w d H' (x1.trans x') t r⟩
theorem ed_callTy {T : String} {r : List V → Hp → VK → Prop} (hc : CallR X (.type T) r) (hg : Gl X x) (hm : X.mg x = none) (hv : bootBuiltins x = some (.type T)) (ha : EA X c (e :: es) δ L)
    (h : ∀ (H : Hp) (vs : List V) (ds : List PyData) (Q : VK), TpAll X.K H vs ds → L ds → (∀ w d H', ExC c H H' → Tp X.K H' w d → R d → Q w H') → r vs H Q)
    (hn : x ≠ "__name__" := by decide) (hdb : (x == ("__debug__" : Str)) = false := by decide) (he : starEach (e :: es) X.env = (false, eval e X.env) :: starEach es X.env := by rfl) (hpl : (backTo pos (starEach es X.env)).any (·.1) = false := by rfl) :
    ED X c (.Call (.Name x p) (e :: es) [] pos) δ R := pe_imp (pe_callTy hc hg hm hv ha hn hdb he hpl) fun σ H Q q => by
  refine ⟨q.1, fun vs ds H1 x1 t1 r1 => h H1 vs ds Q t1 r1 fun w d H' x' t r => q.2 w d H' (x1.trans x') t r⟩
/-- tuple(list), tuple(tuple) -/
theorem ed_tupR (hg : Gl X x) (hm : X.mg x = none) (hv : bootBuiltins x = some (.type "tuple")) (ha : PA X [a] (tAR c X.K δ L))
    (hn : x ≠ "__name__" := by decide) (hdb : (x == ("__debug__" : Str)) = false := by decide) (he : starEach [a] X.env = (false, eval a X.env) :: starEach [] X.env := by rfl) (hpl : (backTo pos (starEach [] X.env)).any (·.1) = false := by rfl) :
    ED X c (.Call (.Name x p) [a] [] pos) δ (fun d => ∃ ds, L ds ∧ d = .tuple ds) := ed_callTyR call_tuple_of hg hm hv ha (fun H p vs es Q s t k q =>
  ⟨_, _, rfl, .inl ⟨s, fun l hl => q _ _ _ (ExC.new hl) (.tup (SqT.of upd_same) (TpAll.te (ExC.new (c := c) hl).te _ _ t)) ⟨es, k, rfl⟩⟩⟩) hn hdb he hpl
theorem de_tupR (hg : Gl X x) (hm : X.mg x = none) (hv : bootBuiltins x = some (.type "tuple")) (ha : PA X [a] (tAR c X.K δ (Eq ds)))
    (hn : x ≠ "__name__" := by decide) (hdb : (x == ("__debug__" : Str)) = false := by decide) (he : starEach [a] X.env = (false, eval a X.env) :: starEach [] X.env := by rfl) (hpl : (backTo pos (starEach [] X.env)).any (·.1) = false := by rfl) :
    DE X c (.Call (.Name x p) [a] [] pos) δ (.tuple ds) := ED.mono (ed_tupR hg hm hv ha hn hdb he hpl) fun d ⟨ds', k, k'⟩ => by subst k; exact k'.symm
theorem de_tupT (hg : Gl X x) (hm : X.mg x = none) (hv : bootBuiltins x = some (.type "tuple")) (ha : DA X c [a] δ [.tuple ds])
    (hn : x ≠ "__name__" := by decide) (hdb : (x == ("__debug__" : Str)) = false := by decide) (he : starEach [a] X.env = (false, eval a X.env) :: starEach [] X.env := by rfl) (hpl : (backTo pos (starEach [] X.env)).any (·.1) = false := by rfl) :
    DE X c (.Call (.Name x p) [a] [] pos) δ (.tuple ds) := ed_callTy call_tupleT hg hm hv ha (fun H vs es Q t k q => by
  subst k
  cases t with
  | cons t1 t2 =>
    cases t2
    cases t1 with
    | tup s1 a1 => exact ⟨_, _, rfl, s1, q _ _ H ExC.refl (.tup s1 a1) rfl⟩) hn hdb he hpl
theorem de_int1 {i : Int} (hg : Gl X x) (hm : X.mg x = none) (hv : bootBuiltins x = some (.type "int")) (ha : DA X c [a] δ [.int i])
    (hn : x ≠ "__name__" := by decide) (hdb : (x == ("__debug__" : Str)) = false := by decide) (he : starEach [a] X.env = (false, eval a X.env) :: starEach [] X.env := by rfl) (hpl : (backTo pos (starEach [] X.env)).any (·.1) = false := by rfl) :
    DE X c (.Call (.Name x p) [a] [] pos) δ (.int i) := ed_callTy call_int1 hg hm hv ha (fun H vs es Q t k q => by
  subst k
  cases t with
  | cons t1 t2 =>
    cases t2
    cases t1
    exact .inl ⟨i, rfl, q _ _ H ExC.refl (.int i) rfl⟩) hn hdb he hpl
/-- list(tuple) -/
theorem df_listT (hg : Gl X x) (hm : X.mg x = none) (hv : bootBuiltins x = some (.type "list")) (ha : DA X c [a] δ [.tuple ds])
    (hn : x ≠ "__name__" := by decide) (hdb : (x == ("__debug__" : Str)) = false := by decide) (he : starEach [a] X.env = (false, eval a X.env) :: starEach [] X.env := by rfl) (hpl : (backTo pos (starEach [] X.env)).any (·.1) = false := by rfl) :
    DF X c (.Call (.Name x p) [a] [] pos) δ ds := pe_imp (pe_callTy call_list_of hg hm hv ha hn hdb he hpl) fun σ H Q q => by
  obtain ⟨⟨H0, rp⟩, q⟩ := q
  refine ⟨⟨H0, rp⟩, fun vs es H1 x1 t1 r1 => ?_⟩
  subst r1
  cases t1 with
  | cons t1 t2 =>
    cases t2
    cases t1 with
    | tup s1 a1 => exact ⟨_, _, rfl, .inr s1, fun l hl => q l _ _ _ (x1.back ((rp.mono x1).fresh hl).2 hl) (x1.trans (ExC.new hl)) upd_same (TpAll.te (ExC.new (c := c) hl).te _ _ a1) rfl⟩

/-! isinstance -/
def tyD : PyData → Option String
  | .none => some "NoneType"
  | .bool _ => some "bool"
  | .int _ => some "int"
  | .tuple _ => some "tuple"
  | _ => none
theorem Tp.tyX {K : PySem.W.Frag} {H : Hp} {v : V} {t : String} (h : Tp K H v d) (ht : tyD d = some t) : TyX K H v (.type t) := by
  cases h with
  | non => cases ht; exact .base .non
  | bl b => cases ht; exact .base (.bl b)
  | int i => cases ht; exact .base (.int i)
  | tup s _ =>
    cases ht
    rcases s with (s | ⟨o, s⟩) | ⟨o, its, n, k, k', _⟩
    · exact .base (.tup s)
    · exact .fTuple s
    · exact .kTuple k k'
theorem de_isi {T t : String} {k : Bool} {pq : Pos} (hg : Gl X x) (hm : X.mg x = none) (hv : bootBuiltins x = some (.builtin "isinstance")) (hgT : Gl X y) (hmT : X.mg y = none) (hvT : bootBuiltins y = some (.type T)) (ha : DE X c a δ d) (ht : tyD d = some t) (hk : kitB t T = some k)
    (hn : x ≠ "__name__" := by decide) (hdb : (x == ("__debug__" : Str)) = false := by decide) (hnT : y ≠ "__name__" := by decide) (hdbT : (y == ("__debug__" : Str)) = false := by decide)
    (he : starEach [a, .Name y pq] X.env = (false, eval a X.env) :: starEach [.Name y pq] X.env := by rfl) (he2 : starEach [.Name y pq] X.env = (false, eval (.Name y pq) X.env) :: starEach [] X.env := by rfl) (hpl : (backTo pos (starEach [.Name y pq] X.env)).any (·.1) = false := by rfl) :
    DE X c (.Call (.Name x p) [a, .Name y pq] [] pos) δ (.bool k) :=
  pe_imp (pe_callB call_isi hg hm hv (pa_cons ha (pa_cons (pe_bltn (v := .ty T) hgT hmT hvT rfl hnT hdbT) pa_nil he2) he) hn hdb he hpl) fun σ H Q q => by
    refine ⟨q.1, fun v d1 H1 x1 t1 r1 => ?_⟩
    subst r1
    exact ⟨v, .ty T, .type t, .type T, k, rfl, .ty T, t1.tyX ht, kit_ty hk, q.2 _ _ H1 x1 (.bl _) rfl⟩
end
end WL

set_option maxRecDepth 100000
set_option maxHeartbeats 4000000
namespace WL
open PySem PySem.Spec PyProof.Rows L2

/-! ### enumerate(tuple) -/
def Itet (K : PySem.W.Frag) (a : Addr) : It :=
  ⟨fun i H => ∃ (xs : List V) (x : V), SqT K H a xs ∧ xs[i]? = some x, fun i H v H' => ∃ T x, v = .ref T ∧ H T = none ∧ H' = upd H T (.tup [.int (i : Nat), x]) ∧ ∀ xs, SqT K H a xs → xs[i]? = some x, fun i H => ∃ xs : List V, SqT K H a xs ∧ xs.length ≤ i⟩

/-! ### slots forgotten -/
theorem wipe_at {σ : L2.St} {i : Nat} : ∀ {vs : List Nat}, (wipe σ vs)[i]? = if i ∈ vs then (if i < σ.length then some none else none) else σ[i]?
  | [] => by
    rw [if_neg (List.not_mem_nil)]
    rfl
  | v :: vs => by
    show ((wipe σ vs).set v none)[i]? = _
    by_cases h : v = i
    · subst h
      rw [if_pos List.mem_cons_self]
      by_cases hl : v < σ.length
      · rw [if_pos hl, List.getElem?_set_self (by rw [wipe_length]; exact hl)]
      · rw [if_neg hl]
        exact List.getElem?_eq_none (by rw [List.length_set, wipe_length]; omega)
    · rw [List.getElem?_set_ne h, wipe_at (vs := vs)]
      by_cases hm : i ∈ vs
      · rw [if_pos hm, if_pos (List.mem_cons_of_mem _ hm)]
      · rw [if_neg hm, if_neg (by simp only [List.mem_cons, not_or]; exact ⟨fun e => h e.symm, hm⟩)]
theorem wipe_set {σ : L2.St} {vs : List Nat} {j : Nat} {v : Option V} (h : j ∈ vs) : wipe (σ.set j v) vs = wipe σ vs := by
  apply List.ext_getElem?
  intro i
  rw [wipe_at, wipe_at, List.length_set]
  by_cases hm : i ∈ vs
  · rw [if_pos hm, if_pos hm]
  · rw [if_neg hm, if_neg hm, List.getElem?_set_ne fun e => hm (by rw [← e]; exact h)]
theorem wipe_wipe {σ : L2.St} {vs : List Nat} : wipe (wipe σ vs) vs = wipe σ vs := by
  apply List.ext_getElem?
  intro i
  rw [wipe_at, wipe_at, wipe_length]
  by_cases hm : i ∈ vs
  · rw [if_pos hm, if_pos hm]
  · rw [if_neg hm, if_neg hm]
def wipeD (δ : List Slot) : List Nat → List Slot
  | [] => δ
  | v :: vs => (wipeD δ vs).set v .un
section
variable {c : Option Addr} {K : PySem.W.Frag} {H0 H H1 : Hp} {σ : L2.St} {δ : List Slot}
theorem Rep.wipe (r : Rep c K H0 H σ δ) : ∀ vs : List Nat, Rep c K H0 H (L2.wipe σ vs) (wipeD δ vs)
  | [] => r
  | v :: vs => (Rep.wipe r vs).setU v none
end

/-! ### iterators -/
structure ItD (c : Option Addr) (K : PySem.W.Frag) (B : Hp) (J : It) (ds : List PyData) : Prop where
  go : ∀ i H, i < ds.length → ExC c B H → J.go i H
  stop : ∀ H, ExC c B H → J.stop ds.length H
  yld : ∀ i H x H', i < ds.length → ExC c B H → J.yld i H x H' → ExC c H H' ∧ ∃ d, ds[i]? = some d ∧ Tp K H' x d
def tI (c : Option Addr) (K : PySem.W.Frag) (δ : List Slot) (L : List PyData → Prop) : TI := fun σ H R => (∃ H0, Rep c K H0 H σ δ) ∧ ∀ J ds H', ExC c H H' → L ds → ItD c K (mask (ownA σ δ) H') J ds → R J H'
abbrev EI (X : Cx) (c : Option Addr) (tg iter : Expr) (δ : List Slot) (L : List PyData → Prop) : Prop := PI X tg iter (tI c X.K δ L)
abbrev DI (X : Cx) (c : Option Addr) (tg iter : Expr) (δ : List Slot) (ds : List PyData) : Prop := EI X c tg iter δ (Eq ds)
section
variable {X : Cx} {c : Option Addr} {δ : List Slot} {tg iter e a b e3 : Expr} {pos p tpos : Pos} {d : PyData} {L : List PyData → Prop} {ds : List PyData} {x : Str}
theorem pi_imp {t t' : TI} (h : PI X tg iter t) (k : ∀ σ H Q, t' σ H Q → t σ H Q) : PI X tg iter t' := ⟨fun pins s σ H Q I q => h.run pins s σ H Q I (k σ H Q q)⟩
theorem EI.mono {L' : List PyData → Prop} (h : EI X c tg iter δ L) (k : ∀ ds, L ds → L' ds) : EI X c tg iter δ L' := pi_imp h fun _ _ _ q => ⟨q.1, fun J ds H' x l i => q.2 J ds H' x (k ds l) i⟩
theorem ExC.mask_te {K : PySem.W.Frag} {H0 H H1 : Hp} {σ : L2.St} (r : Rep c K H0 H σ δ) (e : ExC c (mask (ownA σ δ) H) H1) : Te H H1 := r.mask_te.trans e.te
/-- items at places -/
theorem tp_at {K : PySem.W.Frag} {H H' : Hp} {vs : List V} {i : Nat} (t : TpAll K H vs ds) (e : Te H H') (h : i < ds.length) : ∃ v d, vs[i]? = some v ∧ ds[i]? = some d ∧ Tp K H' v d := by
  have hl : i < vs.length := by rw [t.len]; exact h
  obtain ⟨d, h1, h2⟩ := t.get (List.getElem?_eq_getElem hl)
  exact ⟨_, d, List.getElem?_eq_getElem hl, h1, Tp.te e _ _ h2⟩
theorem di_tup (h : DE X c iter δ (.tuple ds)) : DI X c tg iter δ ds := pi_imp (pi_tup h) fun σ H Q q => by
  obtain ⟨⟨H0, rp⟩, q⟩ := q
  refine ⟨⟨H0, rp⟩, fun v d H1 x1 t1 r1 => ?_⟩
  subst r1
  cases t1 with
  | @tup a vs _ s1 a1 =>
    have r1 := rp.mono x1
    refine ⟨a, rfl, ⟨vs, s1⟩, q _ _ H1 x1 rfl ⟨fun i H2 hi x => ?_, fun H2 x => ?_, fun i H2 v H3 hi x y => ?_⟩⟩
    · obtain ⟨v, d, h1, _⟩ := tp_at a1 (ExC.mask_te r1 x) hi
      exact ⟨vs, v, (ExC.mask_te r1 x).t s1, h1⟩
    · exact ⟨vs, (ExC.mask_te r1 x).t s1, by rw [a1.len]; exact Nat.le_refl _⟩
    · obtain ⟨rfl, y⟩ := y
      obtain ⟨w, d, h1, h2, h3⟩ := tp_at a1 (ExC.mask_te r1 x) hi
      have : v = w := Option.some.inj ((y vs ((ExC.mask_te r1 x).t s1)).symm.trans h1)
      subst this
      exact ⟨ExC.refl, d, h2, h3⟩
theorem not_own {K : PySem.W.Frag} {H0 H : Hp} {σ : L2.St} (r : Rep c K H0 H σ δ) {q : Addr} (h : H q = none) : ¬ ownA σ δ q := fun z => by
  obtain ⟨_, vs, k, _⟩ := r.ownA z
  rw [h] at k
  cases k
theorem di_fresh (h : EF X c iter δ L) : EI X c tg iter δ L := pi_imp (pi_list h) fun σ H Q q => by
  obtain ⟨⟨H0, rp⟩, q⟩ := q
  refine ⟨⟨H0, rp⟩, fun a vs es H1 n x1 y1 a1 l1 => ?_⟩
  have r1 := rp.mono x1
  have hn := not_own rp n
  have nc := (rp.fresh n).2
  have st : ∀ {H2 : Hp}, ExC c (mask (ownA σ δ) H1) H2 → SqL X.K H2 a vs := fun x => SqL.of (x.ex _ _ nc (by rw [mask_out hn]; exact y1))
  refine ⟨a, rfl, ⟨vs, SqL.of y1⟩, q _ _ H1 x1 l1 ⟨fun i H2 hi x => ?_, fun H2 x => ?_, fun i H2 v H3 hi x y => ?_⟩⟩
  · obtain ⟨v, d, h1, _⟩ := tp_at a1 (ExC.mask_te r1 x) hi
    exact ⟨vs, v, st x, h1⟩
  · exact ⟨vs, st x, by rw [a1.len]; exact Nat.le_refl _⟩
  · obtain ⟨rfl, y⟩ := y
    obtain ⟨w, d, h1, h2, h3⟩ := tp_at a1 (ExC.mask_te r1 x) hi
    have : v = w := Option.some.inj ((y vs (st x)).symm.trans h1)
    subst this
    exact ⟨ExC.refl, d, h2, h3⟩
/-- lo, lo + 1, .. as data -/
def rangeD (lo : Int) (n : Nat) : List PyData := (List.range n).map fun (i : Nat) => .int (lo + i)
theorem rangeD_len (lo : Int) (n : Nat) : (rangeD lo n).length = n := by
  unfold rangeD
  rw [List.length_map, List.length_range]
theorem rangeD_at {lo : Int} {n i : Nat} (h : i < n) : (rangeD lo n)[i]? = some (.int (lo + i)) := by
  unfold rangeD
  rw [List.getElem?_map, List.getElem?_range h]
  rfl
theorem itD_range {K : PySem.W.Frag} {B : Hp} (lo : Int) (n : Nat) : ItD c K B (Itr lo n) (rangeD lo n) :=
  ⟨fun i H hi _ => by rw [rangeD_len] at hi; exact hi, fun H _ => Nat.le_of_eq (rangeD_len lo n).symm, fun i H x H' hi _ y => by
    rw [rangeD_len] at hi
    obtain ⟨rfl, rfl⟩ := y
    exact ⟨ExC.refl, _, rangeD_at hi, .int _⟩⟩
theorem ei_range1 {P : Int → Prop} (hg : Gl X "range") (hm : X.mg "range" = none) (ha : EA X c [a] δ fun ds => ∃ n, ds = [.int n] ∧ P n ∧ -(2 ^ 62) ≤ n ∧ n < 2 ^ 62) (hs : starEach [a] X.env = [(false, eval a X.env)] := by rfl) :
    EI X c tg (.Call (.Name "range" p) [a] [] pos) δ (fun ds => ∃ n, P n ∧ ds = rangeD 0 n.toNat) := pi_imp (pi_range1 hg hm ha hs) fun σ H Q q => by
  refine ⟨q.1, fun vs es H1 x1 t1 ⟨n, k, k1, k2, k3⟩ => ?_⟩
  subst k
  cases t1 with
  | cons t1 t2 =>
    cases t2
    cases t1
    exact ⟨n, rfl, k2, k3, q.2 _ _ H1 x1 ⟨n, k1, rfl⟩ (itD_range 0 n.toNat)⟩
theorem di_range1 {n : Int} (hg : Gl X "range") (hm : X.mg "range" = none) (ha : DA X c [a] δ [.int n]) (h1 : -1000000 ≤ n ∧ n ≤ 1000000) (hs : starEach [a] X.env = [(false, eval a X.env)] := by rfl) :
    DI X c tg (.Call (.Name "range" p) [a] [] pos) δ (rangeD 0 n.toNat) :=
  EI.mono (ei_range1 (P := fun m => m = n) hg hm (pa_imp ha fun σ H Q q => ⟨q.1, fun vs ds H' x t r => q.2 vs ds H' x t (by subst r; exact ⟨n, rfl, rfl, by omega, by omega⟩)⟩) hs) fun ds ⟨m, k, k'⟩ => by subst k; exact k'.symm
theorem di_range2 {lo hi : Int} (hg : Gl X "range") (hm : X.mg "range" = none) (ha : DA X c [a, b] δ [.int lo, .int hi]) (h1 : -1000000 ≤ lo ∧ lo ≤ 1000000 ∧ -1000000 ≤ hi ∧ hi ≤ 1000000) (hs : starEach [a, b] X.env = [(false, eval a X.env), (false, eval b X.env)] := by rfl) (hs2 : starEach [b] X.env = [(false, eval b X.env)] := by rfl) :
    DI X c tg (.Call (.Name "range" p) [a, b] [] pos) δ (rangeD lo (hi - lo).toNat) := pi_imp (pi_range2 hg hm ha hs hs2) fun σ H Q q => by
  refine ⟨q.1, fun vs es H1 x1 t1 k => ?_⟩
  subst k
  cases t1 with
  | cons t1 t2 =>
    cases t2 with
    | cons t2 t3 =>
      cases t3
      cases t1
      cases t2
      exact ⟨lo, hi, rfl, by omega, q.2 _ _ H1 x1 rfl (itD_range lo _)⟩
/-- downward by ones -/
def rangeB (lo : Int) (n : Nat) : List PyData := (List.range n).map fun (i : Nat) => .int (lo - i)
theorem rangeB_len (lo : Int) (n : Nat) : (rangeB lo n).length = n := by
  unfold rangeB
  rw [List.length_map, List.length_range]
theorem rangeB_at {lo : Int} {n i : Nat} (h : i < n) : (rangeB lo n)[i]? = some (.int (lo - i)) := by
  unfold rangeB
  rw [List.getElem?_map, List.getElem?_range h]
  rfl
theorem di_rangeB {lo hi : Int} (hg : Gl X "range") (hm : X.mg "range" = none) (ha : DA X c [a, b, e3] δ [.int lo, .int hi, .int (-1)]) (h1 : -1000000 ≤ lo ∧ lo ≤ 1000000 ∧ -1000000 ≤ hi ∧ hi ≤ 1000000)
    (hs : starEach [a, b, e3] X.env = [(false, eval a X.env), (false, eval b X.env), (false, eval e3 X.env)] := by rfl) (hs2 : starEach [b, e3] X.env = [(false, eval b X.env), (false, eval e3 X.env)] := by rfl) :
    DI X c tg (.Call (.Name "range" p) [a, b, e3] [] pos) δ (rangeB lo (lo - hi).toNat) := pi_imp (pi_range3 hg hm ha (by rw [hs, hs2]) (by rw [hs2]; rfl)) fun σ H Q q => by
  refine ⟨q.1, fun vs es H1 x1 t1 k => ?_⟩
  subst k
  cases t1 with
  | cons t1 t2 =>
    cases t2 with
    | cons t2 t3 =>
      cases t3 with
      | cons t3 t4 =>
        cases t4
        cases t1
        cases t2
        cases t3
        refine ⟨lo, hi, -1, (lo - hi).toNat, rfl, RgC.neg (by omega) (by omega) (by omega) (by omega), q.2 _ _ H1 x1 rfl ⟨fun i H hi _ => by rw [rangeB_len] at hi; exact hi, fun H _ => Nat.le_of_eq (rangeB_len _ _).symm, fun i H x H' hi _ y => ?_⟩⟩
        rw [rangeB_len] at hi
        obtain ⟨rfl, rfl⟩ := y
        refine ⟨ExC.refl, _, rangeB_at hi, ?_⟩
        rw [show lo + (i : Int) * -1 = lo - i by omega]
        exact .int _
/-- pairs of a place and an item -/
def enumD (ds : List PyData) : List PyData := ds.zipIdx.map fun (d, i) => .tuple [.int (i : Nat), d]
theorem enumD_len (ds : List PyData) : (enumD ds).length = ds.length := by
  unfold enumD
  rw [List.length_map, List.length_zipIdx]
theorem enumD_at {i : Nat} (h : ds[i]? = some d) : (enumD ds)[i]? = some (.tuple [.int (i : Nat), d]) := by
  unfold enumD
  rw [List.getElem?_map, List.getElem?_zipIdx, h]
  simp
/-- over a new list -/
theorem ei_enumF {elts : List Expr} {kk : Nat} (hg : Gl X "enumerate") (hm : X.mg "enumerate" = none) (h : EF X c e δ L) (hs : starEach [e] X.env = [(false, eval e X.env)] := by rfl) :
    EI X c (.Tuple elts kk tpos) (.Call (.Name "enumerate" p) [e] [] pos) δ (fun es => ∃ ds, L ds ∧ es = enumD ds) := pi_imp (pi_enum hg hm (pa_cons h pa_nil (by first | exact hs | rw [hs])) hs) fun σ H Q q => by
  obtain ⟨⟨H0, rp⟩, q⟩ := q
  refine ⟨⟨H0, rp⟩, fun a vs es H1 n x1 y1 a1 l1 => ?_⟩
  have r1 := rp.mono x1
  have hn := not_own rp n
  have nc := (rp.fresh n).2
  have st : ∀ {H2 : Hp}, ExC c (mask (ownA σ δ) H1) H2 → SqL X.K H2 a vs := fun x => SqL.of (x.ex _ _ nc (by rw [mask_out hn]; exact y1))
  refine ⟨a, vs, rfl, SqL.of y1, q _ _ H1 x1 ⟨es, l1, rfl⟩ ⟨fun i H2 hi x => ?_, fun H2 x => ?_, fun i H2 v H3 hi x y => ?_⟩⟩
  · rw [enumD_len] at hi
    obtain ⟨v, d, h1, _⟩ := tp_at a1 (ExC.mask_te r1 x) hi
    exact ⟨vs, v, st x, h1⟩
  · exact ⟨vs, st x, by rw [enumD_len, a1.len]; exact Nat.le_refl _⟩
  · rw [enumD_len] at hi
    obtain ⟨T, w', rfl, nT, rfl, y⟩ := y
    obtain ⟨w, d, h1, h2, h3⟩ := tp_at a1 (ExC.mask_te r1 x) hi
    have : w' = w := Option.some.inj ((y vs (st x)).symm.trans h1)
    subst this
    have x' : ExC c H2 (upd H2 T (.tup [.int (i : Nat), w'])) := ExC.new nT
    exact ⟨x', _, enumD_at h2, .tup (SqT.of upd_same) (.cons (.int _) (.cons (Tp.te x'.te _ _ h3) .nil))⟩

/-! ### targets -/
abbrev TGD := PyData → List Slot → Option (List Slot)
def tG (c : Option Addr) (K : PySem.W.Frag) (A : TGD) (js : List Nat) : TG := fun v σ H Q => ∃ H0 δ d δ', Rep c K H0 H σ δ ∧ Tp K H v d ∧ A d δ = some δ' ∧ ∀ σ', wipe σ' js = wipe σ js → Rep c K H0 H σ' δ' → Q σ' H
abbrev EG (X : Cx) (c : Option Addr) (tg : Expr) (A : TGD) (js : List Nat) : Prop := PG X tg (tG c X.K A js)
def gN (j : Nat) : TGD := fun d δ => some (δ.set j (.dat d))
def g2 (A1 A2 : TGD) : TGD := fun d δ => match d with
  | .tuple [d1, d2] => (A1 d1 δ).bind (A2 d2)
  | _ => none
def g3 (A1 A2 A3 : TGD) : TGD := fun d δ => match d with
  | .tuple [d1, d2, d3] => ((A1 d1 δ).bind (A2 d2)).bind (A3 d3)
  | _ => none
theorem pg_imp {t t' : TG} (h : PG X tg t) (k : ∀ v σ H Q, t' v σ H Q → t v σ H Q) : PG X tg t' := ⟨fun pins s σ H v u Q I r q => h.run pins s σ H v u Q I r (k v σ H Q q)⟩
theorem eg_name {j : Nat} {js : List Nat} (hN : X.N.Nodup) (hi : X.N[j]? = some x) (hx : Loc X.env.scope x) (hj : j ∈ js) (hf : X.fn x = true ∨ X.env.scope.names.lookup x = some .local := by first | exact .inl rfl | exact .inr rfl | assumption) : EG X c (.Name x pos) (gN j) js :=
  pg_imp (pg_name hN hi hx hf) fun v σ H Q q => by
    obtain ⟨H0, δ, d, δ', r, t, e, q⟩ := q
    cases e
    exact q _ (wipe_set hj) (r.setD j t)
theorem eg_two {t1 t2 : Expr} {A1 A2 : TGD} {js : List Nat} {k : Nat} (hc : X.calm = true) (h1 : EG X c t1 A1 js) (h2 : EG X c t2 A2 js)
    (hs : (assignEach [t1, t2] X.env).map (·.2) = assign t1 X.env :: (assignEach [t2] X.env).map (·.2) := by rfl) (hs2 : (assignEach [t2] X.env).map (·.2) = assign t2 X.env :: (assignEach [] X.env).map (·.2) := by rfl)
    (hn : (assignEach [t1, t2] X.env).length = 2 := by rfl) (hst : (assignEach [t1, t2] X.env).findIdx? (·.1) = none := by rfl) : EG X c (.Tuple [t1, t2] k pos) (g2 A1 A2) js :=
  pg_imp (pg_tup hc (pgs_cons h1 (pgs_cons h2 pgs_nil hs2) hs) hn hst) fun v σ H Q q => by
    obtain ⟨H0, δ, d, δ', r, t, e, q⟩ := q
    unfold g2 at e
    split at e
    · rename_i d1 d2
      cases t with
      | tup s a =>
        cases a with
        | cons a1 a2 =>
          cases a2 with
          | cons a2 a3 =>
            cases a3
            cases e1 : A1 d1 δ with
            | none => rw [e1] at e; cases e
            | some δ1 =>
              rw [e1] at e
              exact ⟨_, _, rfl, s, rfl, _, _, rfl, H0, δ, d1, δ1, r, a1, e1, fun σ1 w1 r1 => ⟨_, _, rfl, H0, δ1, d2, δ', r1, a2, e, fun σ2 w2 r2 => ⟨rfl, q σ2 (w2.trans w1) r2⟩⟩⟩
    · cases e
theorem eg_three {t1 t2 t3 : Expr} {A1 A2 A3 : TGD} {js : List Nat} {k : Nat} (hc : X.calm = true) (h1 : EG X c t1 A1 js) (h2 : EG X c t2 A2 js) (h3 : EG X c t3 A3 js)
    (hs : (assignEach [t1, t2, t3] X.env).map (·.2) = assign t1 X.env :: (assignEach [t2, t3] X.env).map (·.2) := by rfl) (hs2 : (assignEach [t2, t3] X.env).map (·.2) = assign t2 X.env :: (assignEach [t3] X.env).map (·.2) := by rfl) (hs3 : (assignEach [t3] X.env).map (·.2) = assign t3 X.env :: (assignEach [] X.env).map (·.2) := by rfl)
    (hn : (assignEach [t1, t2, t3] X.env).length = 3 := by rfl) (hst : (assignEach [t1, t2, t3] X.env).findIdx? (·.1) = none := by rfl) : EG X c (.Tuple [t1, t2, t3] k pos) (g3 A1 A2 A3) js :=
  pg_imp (pg_tup hc (pgs_cons h1 (pgs_cons h2 (pgs_cons h3 pgs_nil hs3) hs2) hs) hn hst) fun v σ H Q q => by
    obtain ⟨H0, δ, d, δ', r, t, e, q⟩ := q
    unfold g3 at e
    split at e
    · rename_i d1 d2 d3
      cases t with
      | tup s a =>
        cases a with
        | cons a1 a2 =>
          cases a2 with
          | cons a2 a3 =>
            cases a3 with
            | cons a3 a4 =>
              cases a4
              cases e1 : A1 d1 δ with
              | none => rw [e1] at e; cases e
              | some δ1 =>
                rw [e1] at e
                have e : ((A2 d2 δ1).bind (A3 d3)) = some δ' := e
                cases e2 : A2 d2 δ1 with
                | none => rw [e2] at e; cases e
                | some δ2 =>
                  rw [e2] at e
                  exact ⟨_, _, rfl, s, rfl, _, _, rfl, H0, δ, d1, δ1, r, a1, e1, fun σ1 w1 r1 => ⟨_, _, rfl, H0, δ1, d2, δ2, r1, a2, e2, fun σ2 w2 r2 => ⟨_, _, rfl, H0, δ2, d3, δ', r2, a3, e, fun σ3 w3 r3 => ⟨rfl, q σ3 (w3.trans (w2.trans w1)) r3⟩⟩⟩⟩
    · cases e

/-! ### comprehensions -/
theorem filter_take {α : Type} {f : α → Bool} {l : List α} {i : Nat} {x : α} (h : l[i]? = some x) : (l.take (i + 1)).filter f = (l.take i).filter f ++ if f x then [x] else [] := by
  rw [List.take_add_one, h, List.filter_append]
  congr 1
  show List.filter f [x] = _
  rw [List.filter_cons, List.filter_nil]
theorem Paired.snoc {α β : Type} {F : α → β → Prop} : ∀ {l : List α} {m : List β} {x : α} {y : β}, Paired F l m → F x y → Paired F (l ++ [x]) (m ++ [y])
  | _, _, _, _, .nil, h => .cons h .nil
  | _, _, _, _, .cons r t, h => .cons r (Paired.snoc t h)
/-- what a turn of a comprehension does with the item d: the test's answer, the element -/
structure Turn1 (c : Option Addr) (K : PySem.W.Frag) (δw : List Slot) (A : TGD) (f : PyData → Bool) (Rl : PyData → PyData → Prop) (tt : TT) (te : TE) (d : PyData) : Prop where
  ex : ∃ δ', A d δw = some δ' ∧ (∀ σ H Q, tT c K δ' (Eq (f d)) σ H Q → tt σ H Q) ∧ (f d = true → ∀ σ H Q, tD c K δ' (Rl d) σ H Q → te σ H Q)
theorem lc_read {A : TGD} {f : PyData → Bool} {Rl : PyData → PyData → Prop} {tt : TT} {te : TE} {vs : List Nat} (ht : ∀ ds, L ds → ds.length ≤ 100000 ∧ ∀ d ∈ ds, Turn1 c X.K (wipeD δ vs) A f Rl tt te d) :
    ∀ σ H Q, tF c X.K δ (fun es => ∃ ds, L ds ∧ Paired Rl (ds.filter f) es) σ H Q → tLc (tI c X.K δ L) (tG c X.K A vs) tt te vs σ H Q := fun σ H Q q => by
  obtain ⟨⟨H0, rp⟩, q⟩ := q
  refine ⟨⟨H0, rp⟩, fun J ds H1 x1 l1 it D hD => ?_⟩
  obtain ⟨hz, ht⟩ := ht ds l1
  have r1 := rp.mono x1
  have nc := (r1.fresh hD).2
  have mx : ∀ {H2 : Hp}, ExC c H1 H2 → ExC c (mask (ownA σ δ) H1) H2 := fun x => (r1.rebase.base).trans x
  refine ⟨fun i m H2 => m = ds.length - i ∧ i ≤ ds.length ∧ ExC c H1 H2 ∧ ∃ ws es, H2 D = some (.lst ws) ∧ TpAll X.K H2 ws es ∧ Paired Rl ((ds.take i).filter f) es,
    ⟨ds.length, rfl, Nat.zero_le _, ExC.new hD, [], [], upd_same, .nil, .nil⟩, ?_⟩
  rintro i m H2 ⟨rfl, hi, x2, ws, es, y2, t2, p2⟩
  have stop_or : i = ds.length ∨ i < ds.length := by omega
  rcases stop_or with e | hlt
  · subst e
    refine .inl ⟨it.stop H2 (mx x2), ?_⟩
    rw [List.take_length] at p2
    exact q D ws es H2 (x1.back ((rp.mono x1).fresh hD).2 hD) (x1.trans x2) y2 t2 ⟨ds, l1, p2⟩
  · refine .inr ⟨it.go i H2 hlt (mx x2), fun H3 => ExC c H1 H3 ∧ ∃ ws es, H3 D = some (.lst ws) ∧ TpAll X.K H3 ws es ∧ Paired Rl ((ds.take (i + 1)).filter f) es, fun H3 ⟨a1, a2⟩ => ⟨ds.length - (i + 1), by omega, rfl, hlt, a1, a2⟩, fun v H3 y => ?_⟩
    obtain ⟨x3, d, hd, td⟩ := it.yld i H2 v H3 hlt (mx x2) y
    obtain ⟨δ', eA, kt, ke⟩ := (ht d (List.mem_of_getElem? hd)).ex
    have x13 := x2.trans x3
    have rw3 : Rep c X.K H0 H3 (L2.wipe σ vs) (wipeD δ vs) := ((rp.mono x1).mono x13).wipe vs
    have el : es.length ≤ ds.length := by
      have := Paired.length p2
      have h2 := List.length_filter_le f (ds.take i)
      rw [List.length_take] at h2
      omega
    refine ⟨H0, wipeD δ vs, d, δ', rw3, td, eA, fun σ' hw r' => ⟨hw.trans wipe_wipe, kt σ' H3 _ ⟨⟨H0, r'⟩, fun bb H4 x4 eb => ?_⟩⟩⟩
    subst eb
    have y3 := x3.ex _ _ nc y2
    have y4 := x4.ex _ _ nc y3
    have ft := filter_take (f := f) hd
    cases hf : f d with
    | true =>
      rw [hf] at ft
      refine ke hf σ' H4 _ ⟨⟨H0, r'.mono x4⟩, fun w dd H5 x5 t5 k5 => ?_⟩
      have y5 := x5.ex _ _ nc y4
      have te5 : Te H5 (upd H5 D (.lst (ws ++ [w]))) := fun a xs z => by
        have n : a ≠ D := fun e => by
          subst e
          rcases z with z | ⟨o, z⟩ <;> (rw [y5] at z; cases z)
        rcases z with z | ⟨o, z⟩
        · exact .inl (by rw [upd_ne n]; exact z)
        · exact .inr ⟨o, by rw [upd_ne n]; exact z⟩
      have x25 := (x3.trans x4).trans x5
      refine ⟨ws, y5, Nat.lt_of_le_of_lt (show ws.length ≤ 100000 by rw [t2.len]; omega) (by decide), ⟨fun a o na ha => ?_, fun pc ec hc => ?_, ((x2.trans x25).te).trans te5⟩, ws ++ [w], es ++ [dd], upd_same, ?_, ?_⟩
      · rw [upd_ne fun e => by subst e; rw [hD] at ha; cases ha]
        exact (x2.trans x25).ex a o na ha
      · obtain ⟨k1, k2, k3, k4⟩ := (x2.trans x25).ck pc ec hc
        exact ⟨k1, k2, k3, by rw [upd_ne fun e => by subst e; exact nc ec]; exact k4⟩
      · exact TpAll.te te5 _ _ ((TpAll.te x25.te _ _ t2).append (.cons t5 .nil))
      · rw [ft]
        exact Paired.snoc p2 k5
    | false =>
      rw [hf] at ft
      have x24 := x3.trans x4
      refine ⟨x2.trans x24, ws, es, y4, TpAll.te x24.te _ _ t2, ?_⟩
      rw [ft, if_neg Bool.false_ne_true, List.append_nil]
      exact p2
/-- the tests and the element within the block, for each item -/
structure Blk (X : Cx) (c : Option Addr) (scope : Scope) (δw : List Slot) (A : TGD) (f : PyData → Bool) (Rl : PyData → PyData → Prop) (ifs : List Expr) (elt : Expr) (d : PyData) : Prop where
  ex : ∃ δ', A d δw = some δ' ∧ (∀ (s : Shared) (H : Hp) (C : Addr) (cl : List (Str × Addr)) (fp : List Addr), PTs (X.blk s H scope (compEnvC scope cl C X.env) fp) ifs (tT c X.K δ' (Eq (f d)))) ∧
    (f d = true → ∀ (s : Shared) (H : Hp) (C : Addr) (cl : List (Str × Addr)) (fp : List Addr), PE (X.blk s H scope (compEnvC scope cl C X.env) fp) elt (tD c X.K δ' (Rl d)))
theorem ef_lc {elt : Expr} {ifs : List Expr} {scope : Scope} {own : List (Str × Nat)} {A : TGD} {f : PyData → Bool} {Rl : PyData → PyData → Prop} (hc : X.calm = true) (hN : X.N.Nodup) (hi : EI X c tg iter δ L) (ok : BlkOk X.N X.env.scope scope own)
    (hg : ∀ (s : Shared) (H : Hp) (C : Addr) (cl : List (Str × Addr)) (fp : List Addr), PG (X.blk s H scope (compEnvC scope cl C X.env) fp) tg (tG c X.K A (own.map (·.2))))
    (hb : ∀ ds, L ds → ds.length ≤ 100000 ∧ ∀ d ∈ ds, Blk X c scope (wipeD δ (own.map (·.2))) A f Rl ifs elt d) (hs : ∀ x, foldedSetIterable iter X.env x = pure x := by intro _; rfl) :
    EF X c (.ListComp elt [⟨tg, iter, ifs, 0⟩] scope pos) δ (fun es => ∃ ds, L ds ∧ Paired Rl (ds.filter f) es) := by
  refine pe_imp (pe_lc (tt := fun σ H Q => ∃ ds d δ', L ds ∧ d ∈ ds ∧ A d (wipeD δ (own.map (·.2))) = some δ' ∧ tT c X.K δ' (Eq (f d)) σ H Q)
    (te := fun σ H Q => ∃ ds d δ', L ds ∧ d ∈ ds ∧ A d (wipeD δ (own.map (·.2))) = some δ' ∧ f d = true ∧ tD c X.K δ' (Rl d) σ H Q) hc hN hi ok hg (fun s H C cl fp => ⟨fun pins s1 σ H1 Q I q => ?_⟩) (fun s H C cl fp => ⟨fun pins s1 σ H1 Q I q => ?_⟩) hs) (lc_read fun ds l => ?_)
  · obtain ⟨ds, d, δ', l, m, eA, q⟩ := q
    obtain ⟨δ2, eA2, kt, _⟩ := ((hb ds l).2 d m).ex
    rw [eA] at eA2
    cases eA2
    exact (kt s H C cl fp).run pins s1 σ H1 Q I q
  · obtain ⟨ds, d, δ', l, m, eA, hf, q⟩ := q
    obtain ⟨δ2, eA2, _, ke⟩ := ((hb ds l).2 d m).ex
    rw [eA] at eA2
    cases eA2
    exact (ke hf s H C cl fp).run pins s1 σ H1 Q I q
  · refine ⟨(hb ds l).1, fun d m => ⟨?_⟩⟩
    obtain ⟨δ', eA, _⟩ := ((hb ds l).2 d m).ex
    exact ⟨δ', eA, fun σ H Q q => ⟨ds, d, δ', l, m, eA, q⟩, fun hf σ H Q q => ⟨ds, d, δ', l, m, eA, hf, q⟩⟩
theorem pts_nilD {X : Cx} {δ : List Slot} {k : Bool} (hk : k = true) : PTs X [] (tT c X.K δ (Eq k)) := ⟨fun pins s σ H Q I q => pts_nil.run pins s σ H Q I (q.2 true H ExC.refl hk)⟩
theorem pts_oneD {X : Cx} {δ : List Slot} {t : Expr} {k : Bool} (h : DT X c t δ k) : PTs X [t] (tT c X.K δ (Eq k)) := pts_one h
theorem paired_map {g : PyData → PyData} : ∀ {l es : List PyData}, Paired (fun d e => g d = e) l es → es = l.map g
  | _, _, .nil => rfl
  | _, _, .cons r t => by rw [List.map_cons, r, paired_map t]
theorem paired_all {P : PyData → Prop} : ∀ {l es : List PyData}, Paired (fun _ e => P e) l es → ∀ e ∈ es, P e
  | _, _, .nil => fun e h => by cases h
  | _, _, .cons r t => fun e h => by
    rcases List.mem_cons.mp h with rfl | h
    · exact r
    · exact paired_all t e h
section
variable {X : Cx} {c : Option Addr} {δ : List Slot} {tg iter : Expr} {pos : Pos} {ds : List PyData}
/-- [elt for target in iter if test], determined: f the test, g the element -/
theorem df_lc {elt : Expr} {ifs : List Expr} {scope : Scope} {own : List (Str × Nat)} {A : TGD} (f : PyData → Bool) (g : PyData → PyData) (hc : X.calm = true) (hN : X.N.Nodup) (hi : DI X c tg iter δ ds) (ok : BlkOk X.N X.env.scope scope own) (hz : ds.length ≤ 100000)
    (hg : ∀ (s : Shared) (H : Hp) (C : Addr) (cl : List (Str × Addr)) (fp : List Addr), PG (X.blk s H scope (compEnvC scope cl C X.env) fp) tg (tG c X.K A (own.map (·.2))))
    (hb : ∀ d ∈ ds, ∃ δ', A d (wipeD δ (own.map (·.2))) = some δ' ∧ (∀ (s : Shared) (H : Hp) (C : Addr) (cl : List (Str × Addr)) (fp : List Addr), PTs (X.blk s H scope (compEnvC scope cl C X.env) fp) ifs (tT c X.K δ' (Eq (f d)))) ∧
      (f d = true → ∀ (s : Shared) (H : Hp) (C : Addr) (cl : List (Str × Addr)) (fp : List Addr), DE (X.blk s H scope (compEnvC scope cl C X.env) fp) c elt δ' (g d))) (hs : ∀ x, foldedSetIterable iter X.env x = pure x := by intro _; rfl) :
    DF X c (.ListComp elt [⟨tg, iter, ifs, 0⟩] scope pos) δ ((ds.filter f).map g) :=
  EF.mono (ef_lc (f := f) (Rl := fun d e => g d = e) hc hN hi ok hg (fun ds' k => by subst k; exact ⟨hz, fun d m => ⟨hb d m⟩⟩) hs) fun es ⟨ds', k, p⟩ => by
    subst k
    exact (paired_map p).symm
/-- .. without a test -/
theorem df_map {elt : Expr} {scope : Scope} {own : List (Str × Nat)} {A : TGD} (g : PyData → PyData) (hc : X.calm = true) (hN : X.N.Nodup) (hi : DI X c tg iter δ ds) (ok : BlkOk X.N X.env.scope scope own) (hz : ds.length ≤ 100000)
    (hg : ∀ (s : Shared) (H : Hp) (C : Addr) (cl : List (Str × Addr)) (fp : List Addr), PG (X.blk s H scope (compEnvC scope cl C X.env) fp) tg (tG c X.K A (own.map (·.2))))
    (hb : ∀ d ∈ ds, ∃ δ', A d (wipeD δ (own.map (·.2))) = some δ' ∧ ∀ (s : Shared) (H : Hp) (C : Addr) (cl : List (Str × Addr)) (fp : List Addr), DE (X.blk s H scope (compEnvC scope cl C X.env) fp) c elt δ' (g d)) (hs : ∀ x, foldedSetIterable iter X.env x = pure x := by intro _; rfl) :
    DF X c (.ListComp elt [⟨tg, iter, [], 0⟩] scope pos) δ (ds.map g) := by
  have h := df_lc (X := X) (c := c) (δ := δ) (pos := pos) (ifs := []) (fun _ => true) g hc hN hi ok hz hg (fun d m => by
    obtain ⟨δ', e, k⟩ := hb d m
    exact ⟨δ', e, fun _ _ _ _ _ => pts_nilD rfl, fun _ => k⟩) hs
  rw [List.filter_eq_self.mpr fun _ _ => rfl] at h
  exact h
end
end
end WL

set_option maxRecDepth 100000
set_option maxHeartbeats 4000000
namespace PySem
open Sem (wp)
set_option maxHeartbeats 1000000 in
theorem ws_meets_enumerate {v : Value} {o : Obj} {H : Heap → Prop} (B : Begins v o H) :
    Meets (Builtin.«enumerate.__new__» ⟨[.type "enumerate", v], []⟩) (fun _ R s => H s.heap ∧
      R (.ok (.ret (.ref (s.heap.push o).objs.size))) { s with heap := (s.heap.push o).push { cls := .type "enumerate", data := .fields #[.none, .bool false, .ref s.heap.objs.size, rawInt 0, .none, .none] } }) :=
  .of_wp fun prog w A R s h => by
    obtain ⟨hp, g, d, tk, os⟩ := s; obtain ⟨h1, h⟩ := h
    have hsub := sub_enumerate
    have q1 : ∀ {A' : Around} {E : Value → Shared → Prop} {Q : Value → Shared → Prop}, Q (.ref hp.objs.size) ⟨hp.push o, g, d, tk, os⟩ → wpAny (model prog w) A' (pyIter v) Q E ⟨hp, g, d, tk, os⟩ :=
      fun q => B.iter prog w _ _ ⟨hp, g, d, tk, os⟩ _ h1 q
    wp_walk using q1
    refine wpAny_stack_any fun st => wpAny_pure ?_
    split
    · rename_i c _ _ _ _ _
      cases (c == Value.type "enumerate")
      · wp_walk using q1
        exact ⟨_, rfl, h⟩
      · wp_walk using q1
        exact ⟨_, rfl, h⟩
    · wp_walk using q1
      exact ⟨_, rfl, h⟩
section
variable {prog : Program} {w : World} {A : Around} {E : Value → Shared → Prop} {s : Shared}
theorem ws_enum_begins {v : Value} {o : Obj} {H : Heap → Prop} {Q : Value → Shared → Prop} (B : Begins v o H) (h1 : H s.heap)
    (h : ∀ h', IsEnum h' (s.heap.objs.size + 1) s.heap.objs.size 0 .none → h'.get? s.heap.objs.size = some o → h'.objs.size = s.heap.objs.size + 2 →
      (∀ b o, s.heap.get? b = some o → h'.get? b = some o) → Q (.ref (s.heap.objs.size + 1)) { s with heap := h' }) :
    wpAny (model prog w) A (call (.type "enumerate") [v]) Q E s := by
  refine callType_new F.called_enumerate (by decide) (F.typeCall_enumerate_1 _) (F.newCall_enumerate_1 _) (fun obj => F.args_object_init_2 obj _) F.entry_enumerate_new
    (ws_meets_enumerate B) ⟨h1, ?_⟩
  have hz : (s.heap.push o).objs.size = s.heap.objs.size + 1 := Heap.size_push ..
  show _ ∧ _
  rw [hz]
  have he : IsEnum ((s.heap.push o).push { cls := .type "enumerate", data := .fields #[.none, .bool false, .ref s.heap.objs.size, rawInt 0, .none, .none] }) (s.heap.objs.size + 1) s.heap.objs.size 0 .none := by
    have := Heap.get?_push_size (s.heap.push o) (o := { cls := .type "enumerate", data := .fields #[.none, .bool false, .ref s.heap.objs.size, rawInt 0, .none, .none] }) rfl
    rw [hz] at this; exact this
  refine ⟨⟨_, he, rfl⟩, h _ he (Heap.get?_push_of_some _ (Heap.get?_push_size _ B.free)) (by rw [Heap.size_push, hz]) fun b o x => Heap.get?_push_of_some _ (Heap.get?_push_of_some _ x)⟩
end
end PySem
namespace WL
open PySem PySem.Spec PyProof.Rows L2

def Ite2 (K : PySem.W.Frag) (a : Addr) : It :=
  ⟨fun i H => ∃ (xs : List V) (x : V), SqT K H a xs ∧ xs[i]? = some x, fun i H v H' => ∃ T x, v = .ref T ∧ H T = none ∧ H' = upd H T (.tup [.int (i : Nat), x]) ∧ ∀ xs, SqT K H a xs → xs[i]? = some x, fun i H => ∃ xs : List V, SqT K H a xs ∧ xs.length = i⟩
theorem turn_enumT {P : Program} {w : World} {K : PySem.W.Frag} {elts : List Expr} {kk : Nat} {tpos : Pos} (a e it : Addr) :
    Turn P w K (.Tuple elts kk tpos) (Ite2 K a) [e, it] e (fun i h => (∃ old, IsEnum h e it ((i : Nat) : Int) old) ∧ h.IsTupleIter it a i ∧ e ≠ it ∧ a ≠ it ∧ e ≠ a) where
  mem := by simp
  obj := fun i h st b hb => by
    obtain ⟨⟨old, he⟩, ⟨o, ho, hc, hd⟩, _⟩ := st
    have e' : b = e ∨ b = it := by simpa using hb
    rcases e' with z | z
    · rw [z]; exact ⟨_, he, fun v q => nomatch q⟩
    · rw [z]; exact ⟨o, ho, fun v q => by rw [hd] at q; cases q⟩
  keep := fun i h h' st k => let ⟨⟨old, he⟩, hi, hne⟩ := st; ⟨⟨old, k e (by simp) _ he⟩, hi.at fun o q => k it (by simp) o q, hne⟩
  item := by
    intro X hP hw hK hc i pins s σ H E I hf st hg
    subst hP hw hK
    obtain ⟨⟨old, he⟩, hit, hne, hai, hea⟩ := st
    obtain ⟨xs, x, hq, hx⟩ := hg
    obtain ⟨its, rv, p, hz⟩ := I.tuple hq
    obtain ⟨u, hu, ru⟩ := rv.get hx
    have hel : e < s.heap.objs.size := Heap.lt_size he
    have hil : it < s.heap.objs.size := by obtain ⟨_, q, _⟩ := hit; exact Heap.lt_size q
    have hlt : i < its.toArray.size := by
      have := (List.getElem?_eq_some_iff.mp hu).1
      simpa using this
    refine wpAny_pyNext_enum_itemC (Draws.tuple (prog := X.prog) (w := X.w) (A := X.A.in1) (I.ok.hd hc) it a hai its.toArray) he ⟨hit, p⟩ hlt hne (by simp only [List.mem_cons, List.mem_nil_iff, not_or, or_false]; exact ⟨hne, hea⟩) fun v h' tk hv ho hit' hT hsz hk => ?_
    have hv' : its.toArray[i]? = some v := hv
    have ev : v = u := by
      have h2 : its[i]? = some v := by simpa using hv'
      rw [hu] at h2
      exact (Option.some.inj h2).symm
    subst ev
    refine ⟨_, rfl, wpAny_letOwnedTupleGo_enum (s := { s with heap := h', toks := tk + 1 }) ho fun h'' he' sb => ?_⟩
    have hT2 : h''.get? s.heap.objs.size = some { cls := .type "tuple", data := .seq #[.int i tk, v] } := (sb.2 _ (Nat.ne_of_gt hel)).trans hT
    have new : ObjOk X.prog X.w (upd H s.heap.objs.size (.tup [.int (i : Nat), x])) h'' s.heap.objs.size (.tup [.int (i : Nat), x]) :=
      ⟨by show 2 ≤ sizeLine; decide, [.int i tk, v], .cons ⟨_, rfl⟩ (.cons ru .nil), ⟨_, hT2, rfl, _, rfl⟩⟩
    have I1 : Inv X pins σ (upd H s.heap.objs.size (.tup [.int (i : Nat), x])) { s with heap := h'', toks := tk + 1 } :=
      I.turnedNew (ch := [e, it]) (fun b ob hb q => (sb.2 b (fun z => hb (by simp [z]))).trans (hk b ob (fun z => hb (by simp [z])) (fun z => hb (by simp [z])) q)) hf (Nat.le_refl _) new
    refine ⟨.ref s.heap.objs.size, _, I1, rfl, ⟨_, x, rfl, I.hok.fresh (Nat.le_refl _), rfl, fun ys hy => by rw [I.tuple_inj hy hq]; exact hx⟩, ⟨⟨v, ?_⟩, hit'.1.at fun o q => (sb.2 it (Ne.symm hne)).trans q, hne, hai, hea⟩, fun b hb => ?_⟩
    · have e1 : ((i + 1 : Nat) : Int) = (i : Int) + 1 := by omega
      rw [e1]; exact he'
    · have hb' : b < s.heap.objs.size := by
        have e' : b = e ∨ b = it := by simpa using hb
        rcases e' with z | z
        · rw [z]; exact hel
        · rw [z]; exact hil
      rw [upd_ne (Nat.ne_of_lt hb')]
      exact (hf b hb).1
  done := by
    intro X hP hw hK hc i pins s σ H E I hf st hg
    subst hP hw hK
    obtain ⟨⟨old, he⟩, hit, hne, hai, hea⟩ := st
    obtain ⟨xs, hq, hx⟩ := hg
    obtain ⟨its, rv, p, hz⟩ := I.tuple hq
    obtain ⟨f0, f1, f2, f3, f4, f5⟩ := hf it (by simp)
    have hl := rv.length
    have hi : its.toArray.size = i := by rw [List.size_toArray]; omega
    subst hi
    exact wpAny_pyNext_enum_endD (Draws.tuple (prog := X.prog) (w := X.w) (A := X.A.in1) (I.ok.hd hc) it a hai its.toArray) he ⟨hit, p⟩ fun h' eb => ⟨rfl, I.turned (t' := s.toks) (fun b o hb q => eb b o hb q) f0 f1 f3 f4 f5⟩
  self := fun A i s Q E st h => let ⟨⟨_, he⟩, _⟩ := st; wpAny_pyIter_enum he h
def iEnumT (K : PySem.W.Frag) (ta : TA) : TI := fun σ H R => ta σ H fun vs H1 => ∃ a xs, vs = [.ref a] ∧ SqT K H1 a xs ∧ R (Ite2 K a) H1
theorem pi_enumT {X : Cx} {e : Expr} {ta : TA} {p pos tpos : Pos} {elts : List Expr} {kk : Nat} (hg : Gl X "enumerate") (hm : X.mg "enumerate" = none) (ha : PA X [e] ta) (hs : starEach [e] X.env = [(false, eval e X.env)] := by rfl) :
    PI X (.Tuple elts kk tpos) (.Call (.Name "enumerate" p) [e] [] pos) (iEnumT X.K ta) := by
  refine ⟨fun pins s σ H R I h => ?_⟩
  refine Call_ (ld_blt I hg hm boot_enumerate (PyProof.Rows.callWith_type1 (thn (ha.run pos pins s σ H _ I h) fun us s1 ⟨vs, H1, I1, r1, q1⟩ => ?_) hs rfl))
  obtain ⟨a, xs, ex, hq, q⟩ := q1
  subst ex
  cases r1 with
  | cons r rr =>
    cases rr
    cases r
    obtain ⟨its, rv, p', hz⟩ := I1.tuple hq
    have hal : a < s1.heap.objs.size := p'.lt
    refine ws_enum_begins (begins_tuple a its.toArray) p' fun h' he hit hsz hk => wpAny_pyIter_enum he ?_
    have I2 : Inv X pins σ H1 { s1 with heap := h' } := I1.kept (t' := s1.toks) hk
    refine ⟨s1.heap.objs.size + 1, [s1.heap.objs.size + 1, s1.heap.objs.size], _, _, H1, rfl, I2, turn_enumT a (s1.heap.objs.size + 1) s1.heap.objs.size, ⟨⟨.none, he⟩, ⟨_, hit, rfl, rfl⟩, Nat.succ_ne_self _, Nat.ne_of_lt hal, Nat.ne_of_gt (Nat.lt_succ_of_lt hal)⟩, fun b hb => ?_, q⟩
    have e' : b = s1.heap.objs.size + 1 ∨ b = s1.heap.objs.size := by simpa using hb
    have hle : s1.heap.objs.size ≤ b := by
      rcases e' with z | z
      · rw [z]; exact Nat.le_add_right _ _
      · rw [z]; exact Nat.le_refl _
    exact I1.fpOk hle (I1.hok.fresh hle)
section
variable {X : Cx} {c : Option Addr} {δ : List Slot} {tg iter e a b e3 : Expr} {pos p tpos : Pos} {d : PyData} {L : List PyData → Prop} {ds : List PyData} {x : Str}
theorem di_enumT {elts : List Expr} {kk : Nat} (hg : Gl X "enumerate") (hm : X.mg "enumerate" = none) (h : DE X c e δ (.tuple ds)) (hs : starEach [e] X.env = [(false, eval e X.env)] := by rfl) :
    DI X c (.Tuple elts kk tpos) (.Call (.Name "enumerate" p) [e] [] pos) δ (enumD ds) := pi_imp (pi_enumT hg hm (pa_cons h pa_nil (by first | exact hs | rw [hs])) hs) fun σ H Q q => by
  obtain ⟨⟨H0, rp⟩, q⟩ := q
  refine ⟨⟨H0, rp⟩, fun v d H1 x1 t1 r1 => ?_⟩
  subst r1
  cases t1 with
  | @tup a vs _ s1 a1 =>
    have r1 := rp.mono x1
    refine ⟨a, vs, rfl, s1, q _ _ H1 x1 rfl ⟨fun i H2 hi x => ?_, fun H2 x => ?_, fun i H2 v H3 hi x y => ?_⟩⟩
    · rw [enumD_len] at hi
      obtain ⟨v, d, h1, _⟩ := tp_at a1 (ExC.mask_te r1 x) hi
      exact ⟨vs, v, (ExC.mask_te r1 x).t s1, h1⟩
    · exact ⟨vs, (ExC.mask_te r1 x).t s1, by rw [enumD_len, a1.len]⟩
    · rw [enumD_len] at hi
      obtain ⟨T, w', rfl, nT, rfl, y⟩ := y
      obtain ⟨w, d, h1, h2, h3⟩ := tp_at a1 (ExC.mask_te r1 x) hi
      have : w' = w := Option.some.inj ((y vs ((ExC.mask_te r1 x).t s1)).symm.trans h1)
      subst this
      have x' : ExC c H2 (upd H2 T (.tup [.int (i : Nat), w'])) := ExC.new nT
      exact ⟨x', _, enumD_at h2, .tup (SqT.of upd_same) (.cons (.int _) (.cons (Tp.te x'.te _ _ h3) .nil))⟩
end

/-! ### a list of lists of ints -/
/-- the objects of such a list at p with its rows at qs -/
def mfr (p : Addr) (qs : List Addr) (T : List (List Int)) : List (Addr × HO) := (p, .lst (qs.map V.ref)) :: qs.zip (T.map fun R => HO.lst (R.map V.int))
structure MOk (p : Addr) (qs : List Addr) (T : List (List Int)) : Prop where
  nd : (p :: qs).Nodup
  len : qs.length = T.length
def sMat (m : Bool) (p : Addr) (qs : List Addr) (T : List (List Int)) : Slot := .frg m p (mfr p qs T)

/-! ### statements -/
inductive Rt where
  | dat (d : PyData)
  | lst (ds : List PyData)
  /-- a tuple of data and a new list -/
  | pr (d : PyData) (ds : List PyData)
  /-- a tuple of a new list of lists and a number -/
  | mat (T : List (List Int)) (k : Int)
def RetOk (K : PySem.W.Frag) (H0 H : Hp) (v : V) : Rt → Prop
  | .dat d => Tp K H v d
  | .lst ds => ∃ p vs, v = .ref p ∧ H0 p = none ∧ H p = some (.lst vs) ∧ TpAll K H vs ds
  | .mat T k => ∃ t p qs, v = .ref t ∧ H t = some (.tup [.ref p, .int k]) ∧ MOk p qs T ∧ ∀ x ∈ mfr p qs T, H0 x.1 = none ∧ H x.1 = some x.2
  | .pr d ds => ∃ q u p vs, v = .ref q ∧ H q = some (.tup [u, .ref p]) ∧ Tp K H u d ∧ H0 p = none ∧ H p = some (.lst vs) ∧ TpAll K H vs ds
structure DEnds where
  nx : List Slot → Prop
  rt : Rt → Prop
  bk : List Slot → Prop := fun _ => False
  ct : List Slot → Prop := fun _ => False
structure EndsOk (c : Option Addr) (K : PySem.W.Frag) (H0 : Hp) (D : DEnds) (D' : Ends) : Prop where
  nx : ∀ σ H δ, Rep c K H0 H σ δ → D.nx δ → D'.nx σ H
  rt : ∀ v H r, ExC c H0 H → RetOk K H0 H v r → D.rt r → D'.rt v H
  bk : ∀ σ H δ, Rep c K H0 H σ δ → D.bk δ → D'.bk σ H
  ct : ∀ σ H δ, Rep c K H0 H σ δ → D.ct δ → D'.ct σ H
def tS (c : Option Addr) (K : PySem.W.Frag) (δ : List Slot) (D : DEnds) : TS := fun D' σ H => ∃ H0, Rep c K H0 H σ δ ∧ EndsOk c K H0 D D'
abbrev SD (X : Cx) (c : Option Addr) (st : Stmt) (δ : List Slot) (D : DEnds) : Prop := PS X st (tS c X.K δ D)
abbrev SDs (X : Cx) (c : Option Addr) (sts : List Stmt) (δ : List Slot) (D : DEnds) : Prop := PSs X sts (tS c X.K δ D)
section
variable {X : Cx} {c : Option Addr} {δ : List Slot} {D : DEnds} {st : Stmt} {rest body : List Stmt} {tg iter e a b : Expr} {pos p pos' : Pos} {d : PyData} {R : PyData → Prop} {L : List PyData → Prop} {ds : List PyData} {x : Str} {B : Bool → Prop} {i : Nat}
theorem ps_imp {t t' : TS} (h : PS X st t) (k : ∀ D σ H, t' D σ H → t D σ H) : PS X st t' := ⟨fun pins s σ H D I q => h.run pins s σ H D I (k D σ H q)⟩
theorem pss_imp {t t' : TS} (h : PSs X rest t) (k : ∀ D σ H, t' D σ H → t D σ H) : PSs X rest t' := ⟨fun pins s σ H D I q => h.run pins s σ H D I (k D σ H q)⟩
theorem sds_nil (h : D.nx δ) : SDs X c [] δ D := pss_imp pss_nil fun D' σ H ⟨H0, r, k⟩ => k.nx σ H δ r h
theorem sds_cons (h : SD X c st δ { D with nx := fun δ' => SDs X c rest δ' D }) : SDs X c (st :: rest) δ D := by
  refine ⟨fun pins s σ H D' I ⟨H0, r, k⟩ => ?_⟩
  refine wpAny_execs_cons (thn (h.run pins s σ H { D' with nx := fun σ' H' => ∃ δ', Rep c X.K H0 H' σ' δ' ∧ SDs X c rest δ' D } I ⟨H0, r, ⟨fun σ' H' δ' r' q => ⟨δ', r', q⟩, k.rt, k.bk, k.ct⟩⟩) fun f s1 q => ?_)
  cases f with
  | next =>
    obtain ⟨σ', H', I', δ', r', q⟩ := q
    exact q.run pins s1 σ' H' D' I' ⟨H0, r', k⟩
  | ret v => exact q
  | brk => exact q
  | cont => exact q
theorem sds_one (h : SD X c st δ D) : SDs X c [st] δ D := pss_one h
theorem sds_never (h : False) : SDs X c rest δ D := h.elim
theorem sd_set (hN : X.N.Nodup) (hi : X.N[i]? = some x) (hx : Loc X.env.scope x) (he : ED X c e δ R) (h : ∀ d, R d → D.nx (δ.set i (.dat d))) (hs : swapsWith e (some (.Name x pos')) pos.line X.env = pure false := by rfl) (hf : X.fn x = true ∨ X.env.scope.names.lookup x = some .local := by first | exact .inl rfl | exact .inr rfl | assumption) :
    SD X c (.Assign [.Name x pos'] e pos) δ D := ps_imp (ps_set hN hi hx he hs hf) fun D' σ H ⟨H0, r, k⟩ =>
  ⟨⟨H0, r⟩, fun v d H' x t q => k.nx _ _ _ ((r.mono x).setD i t) (h d q)⟩
theorem sd_setF (hN : X.N.Nodup) (hi : X.N[i]? = some x) (hx : Loc X.env.scope x) (he : EF X c e δ L) (h : ∀ ds, L ds → D.nx (δ.set i (.own ds))) (hs : swapsWith e (some (.Name x pos')) pos.line X.env = pure false := by rfl) (hf : X.fn x = true ∨ X.env.scope.names.lookup x = some .local := by first | exact .inl rfl | exact .inr rfl | assumption) :
    SD X c (.Assign [.Name x pos'] e pos) δ D := ps_imp (ps_set hN hi hx he hs hf) fun D' σ H ⟨H0, r, k⟩ =>
  ⟨⟨H0, r⟩, fun p vs ds H' n x y t q => k.nx _ _ _ (r.setF x i n y t) (h ds q)⟩
/-- name = [..] by a comprehension, on one line -/
theorem sd_setLc {elt : Expr} {ifs : List Expr} {scope : Scope} {own : List (Str × Nat)} {A : TGD} {f : PyData → Bool} {Rl : PyData → PyData → Prop} (hc : X.calm = true) (hN : X.N.Nodup) (hy : X.N[i]? = some x) (hyl : X.env.scope.names.lookup x = some .local)
    (hsw : swapsWith (.ListComp elt [⟨tg, iter, ifs, 0⟩] scope pos) (some (.Name x pos')) p.line X.env = pure true) (hi : EI X c tg iter δ L) (ok : BlkOk X.N X.env.scope scope own)
    (hg : ∀ (s : Shared) (H : Hp) (C : Addr) (cl : List (Str × Addr)) (fp : List Addr), PG (X.blk s H scope (compEnvC scope cl C X.env) fp) tg (tG c X.K A (own.map (·.2))))
    (hb : ∀ ds, L ds → ds.length ≤ 100000 ∧ ∀ d ∈ ds, Blk X c scope (wipeD δ (own.map (·.2))) A f Rl ifs elt d)
    (h : ∀ ds es, L ds → Paired Rl (ds.filter f) es → D.nx (δ.set i (.own es))) (hs : ∀ x, foldedSetIterable iter X.env x = pure x := by intro _; rfl) :
    SD X c (.Assign [.Name x pos'] (.ListComp elt [⟨tg, iter, ifs, 0⟩] scope pos) p) δ D := by
  refine ps_imp (ps_setLc (tt := fun σ H Q => ∃ ds d δ', L ds ∧ d ∈ ds ∧ A d (wipeD δ (own.map (·.2))) = some δ' ∧ tT c X.K δ' (Eq (f d)) σ H Q)
    (te := fun σ H Q => ∃ ds d δ', L ds ∧ d ∈ ds ∧ A d (wipeD δ (own.map (·.2))) = some δ' ∧ f d = true ∧ tD c X.K δ' (Rl d) σ H Q) hc hN hy hyl hsw hi ok hg (fun s H C cl fp => ⟨fun pins s1 σ H1 Q I q => ?_⟩) (fun s H C cl fp => ⟨fun pins s1 σ H1 Q I q => ?_⟩) hs) fun D' σ H ⟨H0, r, k⟩ => (lc_read fun ds l => ?_) σ H _ ⟨⟨H0, r⟩, fun p vs es H' n x y t ⟨ds, l, q⟩ => k.nx _ _ _ (r.setF x i n y t) (h ds es l q)⟩
  · obtain ⟨ds, d, δ', l, m, eA, q⟩ := q
    obtain ⟨δ2, eA2, kt, _⟩ := ((hb ds l).2 d m).ex
    rw [eA] at eA2
    cases eA2
    exact (kt s H C cl fp).run pins s1 σ H1 Q I q
  · obtain ⟨ds, d, δ', l, m, eA, hf, q⟩ := q
    obtain ⟨δ2, eA2, _, ke⟩ := ((hb ds l).2 d m).ex
    rw [eA] at eA2
    cases eA2
    exact (ke hf s H C cl fp).run pins s1 σ H1 Q I q
  · refine ⟨(hb ds l).1, fun d m => ⟨?_⟩⟩
    obtain ⟨δ', eA, _⟩ := ((hb ds l).2 d m).ex
    exact ⟨δ', eA, fun σ H Q q => ⟨ds, d, δ', l, m, eA, q⟩, fun hf σ H Q q => ⟨ds, d, δ', l, m, eA, hf, q⟩⟩
theorem sd_drop (he : ED X c e δ R) (h : ∀ d, R d → D.nx δ) (hs : swapsWith e none pos.line X.env = pure false := by rfl) : SD X c (.Expr e pos) δ D := ps_imp (ps_expr he hs) fun D' σ H ⟨H0, r, k⟩ =>
  ⟨⟨H0, r⟩, fun v d H' x t q => k.nx _ _ _ (r.mono x) (h d q)⟩
theorem sd_ret (he : ED X c e δ R) (h : ∀ d, R d → D.rt (.dat d)) : SD X c (.Return (some e) pos) δ D := ps_imp (ps_ret he) fun D' σ H ⟨H0, r, k⟩ =>
  ⟨⟨H0, r⟩, fun v d H' x t q => k.rt v H' (.dat d) (r.base.trans x) t (h d q)⟩
theorem sd_retD (he : DE X c e δ d) (h : D.rt (.dat d)) : SD X c (.Return (some e) pos) δ D := sd_ret he fun d' k => by subst k; exact h
theorem sd_retF (he : EF X c e δ L) (h : ∀ ds, L ds → D.rt (.lst ds)) : SD X c (.Return (some e) pos) δ D := ps_imp (ps_ret he) fun D' σ H ⟨H0, r, k⟩ =>
  ⟨⟨H0, r⟩, fun p vs ds H' n x y t q => k.rt _ H' (.lst ds) (r.base.trans x) ⟨p, vs, rfl, (r.fresh n).1, y, t⟩ (h ds q)⟩
/-- return of one's own list -/
theorem sd_retO (hN : X.N[i]? = some x) (hv : Vis X.env.scope x) (hδ : δ[i]? = some (.own ds)) (h : D.rt (.lst ds)) (hd : (x == ("__debug__" : Str)) = false := by decide) (hcd : (x == ("__classdict__" : Str)) = false := by decide) : SD X c (.Return (some (.Name x p)) pos) δ D :=
  ps_imp (ps_ret (pe_var hN hv hd hcd)) fun D' σ H ⟨H0, r, k⟩ => by
    obtain ⟨q, vs, h1, h2, h3, h4⟩ := r.at_ i _ hδ
    exact ⟨_, h1, k.rt _ H (.lst ds) r.base ⟨q, vs, rfl, h2, h3, h4⟩ h⟩
theorem sd_if (ht : ET X c e δ B) (h1 : B true → SDs X c body δ D) (h2 : B false → SDs X c rest δ D) : SD X c (.If e body rest pos) δ D := by
  refine ⟨fun pins s σ H D' I ⟨H0, r, k⟩ => ?_⟩
  refine wpAny_If (thn (ht.run pins s σ H (fun b H' => ExC c H H' ∧ B b) I ⟨⟨H0, r⟩, fun b H' x q => ⟨x, q⟩⟩) fun b s1 ⟨H1, I1, x1, q1⟩ => ?_)
  cases b with
  | true => exact (h1 q1).run pins s1 σ H1 D' I1 ⟨H0, r.mono x1, k⟩
  | false => exact (h2 q1).run pins s1 σ H1 D' I1 ⟨H0, r.mono x1, k⟩
/-- a test whose answer is told -/
theorem sd_ifD {k : Bool} (ht : DT X c e δ k) (h1 : k = true → SDs X c body δ D) (h2 : k = false → SDs X c rest δ D) : SD X c (.If e body rest pos) δ D := sd_if ht h1 h2
/-- targets = data -/
theorem sd_asg {A : TGD} {js : List Nat} (he : ED X c e δ R) (hg : EG X c tg A js) (h : ∀ d, R d → ∃ δ', A d δ = some δ' ∧ D.nx δ') (hs : swapsWithSole [tg] e pos.line X.env = pure false := by rfl) (hw : swappedStores [tg] e X.env = pure none := by rfl)
    (h1 : (assignEach [tg] X.env).map (·.2) = [assign tg X.env] := by rfl) : SD X c (.Assign [tg] e pos) δ D := ps_imp (ps_asg he hg hs hw h1) fun D' σ H ⟨H0, r, k⟩ =>
  ⟨⟨H0, r⟩, fun v d H' x t q => by
    obtain ⟨δ', e, q⟩ := h d q
    exact ⟨H0, δ, d, δ', r.mono x, t, e, fun σ' _ r' => k.nx _ _ _ r' q⟩⟩
/-- name += e, name -= e of ints -/
theorem sd_aug {op : Operator} {f : Int → Int → Int} {m n : Int} (hN : X.N.Nodup) (hi : X.N[i]? = some x) (hx : Loc X.env.scope x) (hδ : δ[i]? = some (.dat (.int m))) (he : DE X c e δ (.int n)) (ho : PIp X op (ipI f)) (h : D.nx (δ.set i (.dat (.int (f m n))))) (hf : X.fn x = true ∨ X.env.scope.names.lookup x = some .local := by first | exact .inl rfl | exact .inr rfl | assumption) :
    SD X c (.AugAssign (.Name x pos') op e pos) δ D := ps_imp (ps_aug hN hi hx he ho hf) fun D' σ H ⟨H0, r, k⟩ => by
  obtain ⟨v, h1, h2⟩ := r.at_ i _ hδ
  cases h2
  refine ⟨_, h1, ⟨H0, r⟩, fun v d H' x t q => ?_⟩
  subst q
  cases t
  exact ⟨m, n, rfl, rfl, k.nx _ _ _ ((r.mono x).setD i (.int _)) h⟩
/-- own.append(e) -/
theorem sd_append {apos cpos : Pos} (hg : PE X (.Name x p) (tVar i)) (hδ : δ[i]? = some (.own ds)) (hl : ds.length ≤ 100000) (ha : EA X c [e] δ L) (h : ∀ es, L es → ∃ d, es = [d] ∧ D.nx (δ.set i (.own (ds ++ [d]))))
    (hbase : attributeBase (.Name x p) "append" X.env (eval (.Name x p) X.env) = eval (.Name x p) X.env := by rfl)
    (hfew : ((backTo cpos (starEach [e] X.env)).all (fun x => !x.1) && (backToKw cpos (keywordEach [] X.env)).all (fun x => x.1.isSome)
      && decide (([e] : List Expr).length + ([] : List Keyword).length + (if ([] : List Keyword).isEmpty then 0 else 1) < 30)) = true := by rfl)
    (hline : (apos.endLine == cpos.line) = true := by rfl) (hs : starEach [e] X.env = (false, eval e X.env) :: starEach [] X.env := by rfl) (hplain : (backTo cpos (starEach [] X.env)).any (·.1) = false := by rfl)
    (hsw : swapsWith (.Call (.Attribute (.Name x p) "append" apos) [e] [] cpos) none pos.line X.env = pure false := by rfl) :
    SD X c (.Expr (.Call (.Attribute (.Name x p) "append" apos) [e] [] cpos) pos) δ D :=
  ps_imp (ps_expr (pe_bm PySem.F.plainAttrs_list PySem.F.slot_list_append PySem.F.type_list_append mt_append hg ha hbase hfew hline hs hplain) hsw) fun D' σ H ⟨H0, r, k⟩ => by
    obtain ⟨q, vs, h1, h2, h3, h4⟩ := r.at_ i _ hδ
    refine ⟨_, h1, .inl ⟨rfl, _, SqL.of h3⟩, ⟨H0, r⟩, fun us es H1 x1 t1 r1 => ?_⟩
    obtain ⟨d, k1, kn⟩ := h es r1
    subst k1
    have rm := r.mono x1
    have h3' := x1.ex _ _ (r.nc h2) h3
    cases t1 with
    | cons t1 t2 =>
      cases t2
      exact ⟨q, vs, _, rfl, rfl, h3', Nat.lt_of_le_of_lt (show vs.length ≤ 100000 by rw [h4.len]; exact hl) (by decide), k.nx _ _ _ (rm.mut hδ h1 ((TpAll.te x1.te _ _ h4).append (.cons t1 .nil))) kn⟩
/-- own += a new list -/
theorem sd_extend (hN : X.N.Nodup) (hi : X.N[i]? = some x) (hx : Loc X.env.scope x) (hδ : δ[i]? = some (.own ds)) (he : EF X c e δ L) (h : ∀ es, L es → ds.length + es.length ≤ 100000 ∧ D.nx (δ.set i (.own (ds ++ es)))) (hf : X.fn x = true ∨ X.env.scope.names.lookup x = some .local := by first | exact .inl rfl | exact .inr rfl | assumption) :
    SD X c (.AugAssign (.Name x pos') .Add e pos) δ D := ps_imp (ps_aug (ti := rExt2) hN hi hx he iop_ext hf) fun D' σ H ⟨H0, r, k⟩ => by
  obtain ⟨q, vs, h1, h2, h3, h4⟩ := r.at_ i _ hδ
  refine ⟨_, h1, ⟨H0, r⟩, fun p us es H' n x y t kk => ?_⟩
  obtain ⟨hz, kn⟩ := h es kk
  have h3' := x.ex _ _ (r.nc h2) h3
  have rm := (r.mono x).mut hδ h1 ((TpAll.te x.te _ _ h4).append t)
  refine ⟨q, p, _, _, rfl, rfl, h3', y, line5 (by rw [h4.len, t.len]; exact hz), ?_⟩
  have e : σ.set i (some (V.ref q)) = σ := by
    apply List.ext_getElem?
    intro j
    by_cases hj : i = j
    · subst hj
      rw [List.getElem?_set_self (List.getElem?_eq_some_iff.mp h1).1, h1]
    · rw [List.getElem?_set_ne hj]
  show D'.nx (σ.set i (some (V.ref q))) _
  rw [e]
  exact k.nx _ _ _ rm kn

/-! loops -/
def wT (X : Cx) (body : List Stmt) : TS := fun D σ H => ∀ pins s, Inv X pins σ H s → wpAny (model X.prog X.w) X.A (execs body X.env) (SP X pins D) X.xe s
theorem pss_wT : PSs X body (wT X body) := ⟨fun pins s σ H D I h => h pins s I⟩
theorem RetOk.back {K : PySem.W.Frag} {H0 B H : Hp} {v : V} {r : Rt} (h : RetOk K B H v r) (k : ∀ p, B p = none → H0 p = none ∨ c = some p) (ck : ∀ p, c = some p → ¬ (B p = none)) : RetOk K H0 H v r := by
  cases r with
  | dat d => exact h
  | lst ds =>
    obtain ⟨p, vs, h1, h2, h3, h4⟩ := h
    exact ⟨p, vs, h1, (k p h2).resolve_right fun e => ck p e h2, h3, h4⟩
  | pr d ds =>
    obtain ⟨q, u, p, vs, h1, h2, h3, h4, h5, h6⟩ := h
    exact ⟨q, u, p, vs, h1, h2, h3, (k p h4).resolve_right fun e => ck p e h4, h5, h6⟩
  | mat T n =>
    obtain ⟨t, p, qs, h1, h2, h3, h4⟩ := h
    exact ⟨t, p, qs, h1, h2, h3, fun x hx => ⟨(k x.1 (h4 x hx).1).resolve_right fun e => ck x.1 e (h4 x hx).1, (h4 x hx).2⟩⟩
theorem sd_for {A : TGD} {js : List Nat} (I : List PyData → Nat → List Slot → Prop) (hp : PassesOwn (model X.prog X.w) X.A X.env X.xe) (hc : X.calm = true) (hi : EI X c tg iter δ L) (hg : EG X c tg A js)
    (h0 : ∀ ds, L ds → I ds 0 δ) (hs : ∀ ds i d δ1, L ds → ds[i]? = some d → I ds i δ1 → ∃ δ2, A d δ1 = some δ2 ∧ SDs X c body δ2 ⟨I ds (i + 1), D.rt, D.nx, I ds (i + 1)⟩)
    (hd : ∀ ds δ1, L ds → I ds ds.length δ1 → D.nx δ1) (hf : ∀ x, foldedSetIterable iter X.env x = pure x := by intro _; rfl) : SD X c (.For tg iter body [] pos) δ D := by
  refine ps_imp (ps_for hp hc hi hg pss_wT hf) fun D' σ H ⟨H0, r, k⟩ => ⟨⟨H0, r⟩, fun J ds H1 x1 l it => ?_⟩
  have r1 := r.mono x1
  have eB : ExC c H0 (mask (ownA σ δ) H1) := r1.mask_ex
  have un : ∀ {H σ' δ'}, Rep c X.K (mask (ownA σ δ) H1) H σ' δ' → Rep c X.K H0 H σ' δ' := fun r' => r'.unbase eB r.ck
  refine ⟨fun i m σ' H' => m = ds.length - i ∧ i ≤ ds.length ∧ ∃ δ1, Rep c X.K (mask (ownA σ δ) H1) H' σ' δ1 ∧ I ds i δ1, ⟨ds.length, rfl, Nat.zero_le _, δ, r1.rebase, h0 ds l⟩, ?_⟩
  rintro i m σ2 H2 ⟨rfl, hi2, δ1, r2, i2⟩
  have cs : i = ds.length ∨ i < ds.length := by omega
  rcases cs with e | hlt
  · subst e
    exact .inl ⟨it.stop H2 r2.base, k.nx _ _ _ (un r2) (hd ds δ1 l i2)⟩
  · refine .inr ⟨it.go i H2 hlt r2.base, fun σ' H' => ∃ δ1, Rep c X.K (mask (ownA σ δ) H1) H' σ' δ1 ∧ I ds (i + 1) δ1, fun σ' H' ⟨δ3, r3, i3⟩ => ⟨ds.length - (i + 1), by omega, rfl, hlt, δ3, r3, i3⟩, fun v H3 y => ?_⟩
    obtain ⟨x3, d, hdd, td⟩ := it.yld i H2 v H3 hlt r2.base y
    obtain ⟨δ2, eA, bd⟩ := hs ds i d δ1 l hdd i2
    refine ⟨_, δ1, d, δ2, r2.mono x3, td, eA, fun σ' _ r' pins s I' => bd.run pins s σ' H3 _ I' ⟨_, r', ⟨fun σ4 H4 δ4 r4 q4 => ⟨δ4, r4, q4⟩, fun w H4 rr x4 ok q4 => ?_, fun σ4 H4 δ4 r4 q4 => k.nx _ _ _ (un r4) q4, fun σ4 H4 δ4 r4 q4 => ⟨δ4, r4, q4⟩⟩⟩⟩
    refine k.rt w H4 rr (eB.trans x4) (RetOk.back (c := c) ok (fun q hq => ?_) fun q e hq => ?_) q4
    · by_cases hcq : c = some q
      · exact .inr hcq
      · exact .inl (eB.back hcq hq)
    · obtain ⟨u1, u2, u3, u4⟩ := eB.ck q e (r.ck q e)
      rw [hq] at u4
      cases u4
end

/-! ### defs -/
def startD (N : List Str) (δ : List Slot) : List Slot := δ ++ List.replicate (N.length - δ.length) .un
/-- data in, S tells what comes out -/
def spR (K : PySem.W.Frag) (n : Nat) (S : List PyData → Rt → Prop) : Sp := fun vs H Q _ => vs.length = n ∧ ∃ ds r, TpAll K H vs ds ∧ S ds r ∧ ∀ v H', ExC none H H' → RetOk K H H' v r → Q v H'
theorem rep_start {K : PySem.W.Frag} {H : Hp} {N : List Str} {vs : List V} {ds : List PyData} (t : TpAll K H vs ds) (hl : vs.length ≤ N.length) : Rep none K H H (L2.start N vs) (startD N (ds.map .dat)) := by
  have hlen : (ds.map Slot.dat).length = vs.length := by rw [List.length_map, t.len]
  refine ⟨?_, fun i s h => ?_, fun i j p hij oi _ => ?_, ExC.refl, fun p e => nomatch e⟩
  · unfold L2.start startD
    rw [List.length_append, List.length_append, List.length_replicate, List.length_replicate, hlen, List.length_map]
  · unfold startD at h
    by_cases hi : i < (ds.map Slot.dat).length
    · rw [List.getElem?_append_left hi, List.getElem?_map] at h
      cases hd : ds[i]? with
      | none => rw [hd] at h; cases h
      | some d =>
        rw [hd] at h
        cases h
        obtain ⟨v, h1, h2⟩ := t.getD hd
        refine ⟨v, ?_, h2⟩
        unfold L2.start
        rw [List.getElem?_append_left (by rw [List.length_map]; exact (List.getElem?_eq_some_iff.mp h1).1), List.getElem?_map, h1]
        rfl
    · rw [List.getElem?_append_right (by omega), List.getElem?_replicate] at h
      split at h
      · cases h
        exact True.intro
      · cases h
  · have : ∀ k a, ¬ adr (L2.start N vs)[k]? a (startD N (ds.map .dat))[k]? := fun k a o => by
      unfold startD at o
      by_cases hk : k < (ds.map Slot.dat).length
      · rw [List.getElem?_append_left hk, List.getElem?_map] at o
        cases hd : ds[k]? with
        | none => rw [hd] at o; exact o
        | some d => rw [hd] at o; exact o
      · rw [List.getElem?_append_right (by omega), List.getElem?_replicate] at o
        split at o <;> exact o
    exact this i _ (adr_of_mine oi)
abbrev CxF (P : Program) (w : World) (K : PySem.W.Frag) (mg : Str → Option Value) (base : Heap) (N : List Str) (qual : Str) (st : Stmt) (f : Addr) (cd : Value) (A : Around) (outer : List Env) (s : Shared) (H : Hp) (E : XK) : Cx :=
  (cxOf CX0 P w K mg base N qual (defScope st) f cd A outer s H E).nox
section
variable {P : Program} {w : World} {K : PySem.W.Frag} {mg : Str → Option Value} {base : Heap} {x qual : Str} {st : Stmt} {f : Addr} {fd : FuncData} {N ps : List Str} {k n : Nat} {S : List PyData → Rt → Prop}
theorem fnR (F : Fun K x qual st f fd) (sc : FnScope N ps (defScope st)) (hn : ps.length = n)
    (body : ∀ (cdv : Value) (A : Around) (outer : List Env) (s : Shared) (H : Hp) (E : XK) (ds : List PyData) (r : Rt), Room k (A.deeper (envOfC qual (defScope st) s.heap.objs.size f cdv)) → ds.length = n → S ds r →
      SDs (CxF P w K mg base N qual st f cdv A outer s H E) none (defBody st) (startD N (ds.map .dat)) ⟨fun _ => r = .dat .none, fun q => q = r, fun _ => False, fun _ => False⟩) : FnOk P w K mg base CX0 (k + 1) f fd ps (spR K n S) := by
  refine F.ok sc (fun vs H Q E h => by rw [h.1, hn]) (fun cdv A outer s H vs Q E hr h => ?_)
  obtain ⟨hl, ds, r, t, hS, q⟩ := h
  refine ⟨_, body cdv A outer s H E ds r hr (by rw [← t.len]; exact hl) hS, H, rep_start t ?_, ⟨fun σ H' δ r' e => ?_, fun v H' r' x ok e => ?_, fun _ _ _ _ z => z.elim, fun _ _ _ _ z => z.elim⟩⟩
  · have := congrArg List.length sc.pre
    rw [List.length_take] at this
    omega
  · subst e
    exact q _ H' r'.base .non
  · subst e
    exact q v H' x ok
end
section
variable {X : Cx} {c : Option Addr} {δ : List Slot} {e : Expr} {es : List Expr} {pos p : Pos} {x : Str} {ds : List PyData} {d : PyData} {f : Addr} {fd : FuncData} {ps : List Str} {k n : Nat} {S : List PyData → Rt → Prop} {L : List PyData → Prop} {R : PyData → Prop}
/-- a call of such a def -/
theorem ed_call (F : FnOk X.prog X.w X.K X.mg X.base CX0 k f fd ps (spR X.K n S)) (hr : Room k X.A) (hg : Gl X x) (hm : X.mg x = some (.ref f)) (hk : PySem.W.keepIn X.K (.ref f) = true) (hb : Binds X.K fd ps []) (ha : EA X c (e :: es) δ L) (h : ∀ ds, L ds → ds.length = n ∧ ∃ d, S ds (.dat d) ∧ R d)
    (hdb : (x == ("__debug__" : Str)) = false := by decide) (he : starEach (e :: es) X.env = (false, eval e X.env) :: starEach es X.env := by rfl) (hpl : (backTo pos (starEach es X.env)).any (·.1) = false := by rfl) : ED X c (.Call (.Name x p) (e :: es) [] pos) δ R :=
  pe_imp (pe_call F hr hg hm hk hb .nil pass0 ha hdb he hpl) fun σ H Q q => by
    refine ⟨q.1, fun vs ds H1 x1 t1 r1 => ?_⟩
    obtain ⟨hl, d, hS, hR⟩ := h ds r1
    rw [List.append_nil]
    exact ⟨by rw [t1.len]; exact hl, ds, _, t1, hS, fun v H' x ok => q.2 v d H' (x1.trans (ExC.none x)) ok hR⟩
theorem de_call (F : FnOk X.prog X.w X.K X.mg X.base CX0 k f fd ps (spR X.K n S)) (hr : Room k X.A) (hg : Gl X x) (hm : X.mg x = some (.ref f)) (hk : PySem.W.keepIn X.K (.ref f) = true) (hb : Binds X.K fd ps []) (ha : DA X c (e :: es) δ ds) (hn : ds.length = n) (h : S ds (.dat d))
    (hdb : (x == ("__debug__" : Str)) = false := by decide) (he : starEach (e :: es) X.env = (false, eval e X.env) :: starEach es X.env := by rfl) (hpl : (backTo pos (starEach es X.env)).any (·.1) = false := by rfl) : DE X c (.Call (.Name x p) (e :: es) [] pos) δ d :=
  ed_call F hr hg hm hk hb ha (fun ds' k => by subst k; exact ⟨hn, d, h, rfl⟩) hdb he hpl
theorem ef_call (F : FnOk X.prog X.w X.K X.mg X.base CX0 k f fd ps (spR X.K n S)) (hr : Room k X.A) (hg : Gl X x) (hm : X.mg x = some (.ref f)) (hk : PySem.W.keepIn X.K (.ref f) = true) (hb : Binds X.K fd ps []) (ha : DA X c (e :: es) δ ds) (hn : ds.length = n) {rs : List PyData} (h : S ds (.lst rs))
    (hdb : (x == ("__debug__" : Str)) = false := by decide) (he : starEach (e :: es) X.env = (false, eval e X.env) :: starEach es X.env := by rfl) (hpl : (backTo pos (starEach es X.env)).any (·.1) = false := by rfl) : DF X c (.Call (.Name x p) (e :: es) [] pos) δ rs :=
  pe_imp (pe_call F hr hg hm hk hb .nil pass0 ha hdb he hpl) fun σ H Q q => by
    obtain ⟨⟨H0, rp⟩, q⟩ := q
    refine ⟨⟨H0, rp⟩, fun vs ds' H1 x1 t1 r1 => ?_⟩
    subst r1
    rw [List.append_nil]
    refine ⟨by rw [t1.len]; exact hn, ds, _, t1, h, fun v H' x ok => ?_⟩
    obtain ⟨p, us, rfl, h1, h2, h3⟩ := ok
    exact q p us rs H' (x1.back ((rp.mono x1).fresh h1).2 h1) (x1.trans (ExC.none x)) h2 h3 rfl
end
end WL

set_option maxRecDepth 100000
set_option maxHeartbeats 4000000
namespace WL
open PySem PySem.Spec PyProof.Rows L2

/-! ### the text -/
def topS (i : Nat) : Stmt := PySem.Challenge.pw_wordshapes_k12_whole_words_alike_and_cha.main.body.getD i (.Pass ⟨0, 0, 0, 0⟩)

theorem b_len : bootBuiltins "len" = some (.builtin "len") := by decide +kernel
theorem b_isinstance : bootBuiltins "isinstance" = some (.builtin "isinstance") := by decide +kernel
theorem b_int : bootBuiltins "int" = some (.type "int") := by decide +kernel
theorem b_bool : bootBuiltins "bool" = some (.type "bool") := by decide +kernel
theorem b_tuple : bootBuiltins "tuple" = some (.type "tuple") := by decide +kernel
theorem b_list : bootBuiltins "list" = some (.type "list") := by decide +kernel
theorem b_all : bootBuiltins "all" = some (.builtin "all") := by decide +kernel
theorem b_any : bootBuiltins "any" = some (.builtin "any") := by decide +kernel
theorem b_max : bootBuiltins "max" = some (.builtin "max") := by decide +kernel
theorem b_min : bootBuiltins "min" = some (.builtin "min") := by decide +kernel
theorem b_sum : bootBuiltins "sum" = some (.builtin "sum") := by decide +kernel
theorem b_sorted : bootBuiltins "sorted" = some (.builtin "sorted") := by decide +kernel
theorem b_abs : bootBuiltins "abs" = some (.builtin "abs") := by decide +kernel
theorem b_divmod : bootBuiltins "divmod" = some (.builtin "divmod") := by decide +kernel
theorem b_repr : bootBuiltins "repr" = some (.builtin "repr") := by decide +kernel
/-- the built-ins are what they were; the module's numbers -/
structure Bi (mg : Str → Option Value) : Prop where
  len : mg "len" = none
  isinstance : mg "isinstance" = none
  int : mg "int" = none
  bool : mg "bool" = none
  tuple : mg "tuple" = none
  list : mg "list" = none
  all : mg "all" = none
  any : mg "any" = none
  max : mg "max" = none
  min : mg "min" = none
  sum : mg "sum" = none
  sorted : mg "sorted" = none
  abs : mg "abs" = none
  divmod : mg "divmod" = none
  repr : mg "repr" = none
  range : mg "range" = none
  enumerate : mg "enumerate" = none
  letter : ∃ t, mg "MOST_LETTER" = some (.int 12 t)
  long : ∃ t, mg "MOST_LONG" = some (.int 12 t)
/-- a def of the text stands under its name -/
structure Tx (K : PySem.W.Frag) (mg : Str → Option Value) (x : Str) (st : Stmt) : Prop where
  ex : ∃ f fd, Fun K x x st f fd ∧ mg x = some (.ref f)
/-- .. and keeps a promise -/
structure Df (P : Program) (w : World) (K : PySem.W.Frag) (mg : Str → Option Value) (base : Heap) (x : Str) (k : Nat) (ps : List Str) (sp : Sp) : Prop where
  ex : ∃ f fd, FnOk P w K mg base CX0 k f fd ps sp ∧ mg x = some (.ref f) ∧ PySem.W.keepIn K (.ref f) = true ∧ Binds K fd ps []
section
variable {P : Program} {w : World} {K : PySem.W.Frag} {mg : Str → Option Value} {base : Heap} {x : Str} {st : Stmt} {N ps : List Str} {k n : Nat} {S : List PyData → Rt → Prop}
theorem dfR (T : Tx K mg x st) (sc : FnScope N ps (defScope st)) (hn : ps.length = n)
    (hb : ∀ (kV doc pm : Value) (an : Option Addr) (cdv ct : Value) (us : List Value), us.length = ps.length → bindArgs (PySem.W.fnOf x x (defArgs st) (defBody st) (defScope st) .none kV doc pm an cdv ct) ⟨us, []⟩ = pure (ps.zip us))
    (body : ∀ (f : Addr) (cdv : Value) (A : Around) (outer : List Env) (s : Shared) (H : Hp) (E : XK) (ds : List PyData) (r : Rt), Room k (A.deeper (envOfC x (defScope st) s.heap.objs.size f cdv)) → S ds r →
      SDs (CxF P w K mg base N x st f cdv A outer s H E) none (defBody st) (startD N (ds.map .dat)) ⟨fun _ => r = .dat .none, fun q => q = r, fun _ => False, fun _ => False⟩) : Df P w K mg base x (k + 1) ps (spR K n S) := by
  obtain ⟨f, fd, F, g⟩ := T.ex
  exact ⟨f, fd, fnR F sc hn (fun cdv A outer s H E ds r hr _ hS => body f cdv A outer s H E ds r hr hS), g, F.kp, F.binds hb⟩
end
section
variable {X : Cx} {c : Option Addr} {δ : List Slot} {e : Expr} {es : List Expr} {pos p : Pos} {x : Str} {ds : List PyData} {d : PyData} {ps : List Str} {k n : Nat} {S : List PyData → Rt → Prop} {L : List PyData → Prop} {R : PyData → Prop}
theorem ed_cd (F : Df X.prog X.w X.K X.mg X.base x k ps (spR X.K n S)) (hr : Room k X.A) (hg : Gl X x) (ha : EA X c (e :: es) δ L) (h : ∀ ds, L ds → ds.length = n ∧ ∃ d, S ds (.dat d) ∧ R d)
    (hdb : (x == ("__debug__" : Str)) = false := by decide) (he : starEach (e :: es) X.env = (false, eval e X.env) :: starEach es X.env := by rfl) (hpl : (backTo pos (starEach es X.env)).any (·.1) = false := by rfl) : ED X c (.Call (.Name x p) (e :: es) [] pos) δ R := by
  obtain ⟨f, fd, F, hm, hk, hb⟩ := F.ex
  exact ed_call F hr hg hm hk hb ha h hdb he hpl
theorem de_cd (F : Df X.prog X.w X.K X.mg X.base x k ps (spR X.K n S)) (hr : Room k X.A) (hg : Gl X x) (ha : DA X c (e :: es) δ ds) (hn : ds.length = n) (h : S ds (.dat d))
    (hdb : (x == ("__debug__" : Str)) = false := by decide) (he : starEach (e :: es) X.env = (false, eval e X.env) :: starEach es X.env := by rfl) (hpl : (backTo pos (starEach es X.env)).any (·.1) = false := by rfl) : DE X c (.Call (.Name x p) (e :: es) [] pos) δ d := by
  obtain ⟨f, fd, F, hm, hk, hb⟩ := F.ex
  exact de_call F hr hg hm hk hb ha hn h hdb he hpl
theorem df_cd (F : Df X.prog X.w X.K X.mg X.base x k ps (spR X.K n S)) (hr : Room k X.A) (hg : Gl X x) (ha : DA X c (e :: es) δ ds) (hn : ds.length = n) {rs : List PyData} (h : S ds (.lst rs))
    (hdb : (x == ("__debug__" : Str)) = false := by decide) (he : starEach (e :: es) X.env = (false, eval e X.env) :: starEach es X.env := by rfl) (hpl : (backTo pos (starEach es X.env)).any (·.1) = false := by rfl) : DF X c (.Call (.Name x p) (e :: es) [] pos) δ rs := by
  obtain ⟨f, fd, F, hm, hk, hb⟩ := F.ex
  exact ef_call F hr hg hm hk hb ha hn h hdb he hpl
end

/-! ### data of words and rows -/
def dW (w : List Int) : PyData := .tuple (w.map .int)
def dR (rs : List (List Int)) : PyData := .tuple (rs.map dW)
def dO : Option Int → PyData
  | none => .none
  | some i => .int i
/-- a word -/
def Wd (w : List Int) : Prop := w.length ≤ 12 ∧ ∀ x ∈ w, 1 ≤ x ∧ x ≤ 12

section
variable {P : Program} {w : World} {K : PySem.W.Frag} {mg : Str → Option Value} {base : Heap}

abbrev s_is_number : Stmt := topS 10
theorem c_is_number : FnScope ["value", "low", "high"] ["value", "low", "high"] (defScope s_is_number) := ⟨rfl, rfl, rfl, by decide +kernel, rfl, by decide +kernel, by decide +kernel⟩
def S_within (ds : List PyData) (r : Rt) : Prop := ∃ v lo hi : Int, ds = [.int v, .int lo, .int hi] ∧ r = .dat (.bool (decide (lo ≤ v) && decide (v ≤ hi)))
theorem f_is_number (B : Bi mg) (T : Tx K mg "is_number" s_is_number) : Df P w K mg base "is_number" 1 ["value", "low", "high"] (spR K 3 S_within) := by
  refine dfR T c_is_number rfl (fun _ _ _ _ _ _ us hl => match us, hl with | [_, _, _], _ => rfl) fun f cdv A outer s H E ds r hr hS => ?_
  obtain ⟨v, lo, hi, rfl, rfl⟩ := hS
  refine sds_one (sd_retD (de_and (de_isi (by rfl) B.isinstance b_isinstance (by rfl) B.int b_int (de_var 0) rfl (k := true) (by decide +kernel)) fun _ =>
    de_and (de_not (de_isi (by rfl) B.isinstance b_isinstance (by rfl) B.bool b_bool (de_var 0) rfl (k := false) (by decide +kernel))) fun _ => de_one (de_chain op_le op_le (de_var 1) (de_var 0) (de_var 2))) rfl)
end
end WL

set_option maxRecDepth 100000
set_option maxHeartbeats 4000000
namespace WL
open PySem PySem.Spec PyProof.Rows L2

/-! ### facts about words as data -/
theorem dW_len (w : List Int) : (w.map PyData.int).length = w.length := List.length_map ..
theorem foldl_max_top : ∀ (w : List Int), w.foldl max 0 = WS.top w := by
  have key : ∀ (w : List Int) (a : Int), 0 ≤ a → w.foldl max a = max a (WS.top w) := by
    intro w
    induction w with
    | nil => intro a ha; show a = max a 0; omega
    | cons x r ih =>
      intro a ha
      show r.foldl max (max a x) = max a (max x (WS.top r))
      rw [ih _ (by omega)]
      omega
  intro w
  rw [key w 0 (Int.le_refl 0)]
  have := WS.top_nonneg w
  omega
theorem amts_range (w : List Int) : rangeD 1 ((WS.top w) + 1 - 1).toNat = (List.range (WS.top w).toNat).map fun (i : Nat) => PyData.int (1 + i) := by
  rw [show WS.top w + 1 - 1 = WS.top w by omega]
  rfl

theorem u64 {k : Nat} {A : Around} (r : Room k A) : A.units + 64 < cLine := by have := r.un; omega
theorem u1 {k : Nat} {A : Around} (r : Room k A) : A.units + 1 < cLine := by have := r.un; omega
theorem DA.to {X : Cx} {c : Option Addr} {δ : List Slot} {es : List Expr} {b b' : List PyData} (h : DA X c es δ b) (k : b = b') : DA X c es δ b' := k ▸ h
theorem DF.to {X : Cx} {c : Option Addr} {δ : List Slot} {e : Expr} {b b' : List PyData} (h : DF X c e δ b) (k : b = b') : DF X c e δ b' := k ▸ h
theorem DW.to {X : Cx} {c : Option Addr} {δ : List Slot} {e : Expr} {b b' : Bool} (h : DW X c e δ b) (k : b = b') : DW X c e δ b' := k ▸ h
section
variable {P : Program} {w : World} {K : PySem.W.Frag} {mg : Str → Option Value} {base : Heap}

abbrev s_is_integer : Stmt := topS 13
theorem c_is_integer : FnScope ["value"] ["value"] (defScope s_is_integer) := ⟨rfl, rfl, rfl, by decide +kernel, rfl, by decide +kernel, by decide +kernel⟩
def S_isint (ds : List PyData) (r : Rt) : Prop := ∃ v : Int, ds = [.int v] ∧ r = .dat (.bool true)
theorem f_is_integer (B : Bi mg) (T : Tx K mg "is_integer" s_is_integer) : Df P w K mg base "is_integer" 1 ["value"] (spR K 1 S_isint) := by
  refine dfR T c_is_integer rfl (fun _ _ _ _ _ _ us hl => match us, hl with | [_], _ => rfl) fun f cdv A outer s H E ds r hr hS => ?_
  obtain ⟨v, rfl, rfl⟩ := hS
  exact sds_one (sd_retD (de_and (de_isi (by rfl) B.isinstance b_isinstance (by rfl) B.int b_int (de_var 0) rfl (k := true) (by decide +kernel)) fun _ =>
    de_one (de_not (de_isi (by rfl) B.isinstance b_isinstance (by rfl) B.bool b_bool (de_var 0) rfl (k := false) (by decide +kernel)))) rfl)

abbrev s_is_within : Stmt := topS 14
theorem c_is_within : FnScope ["value", "low", "high"] ["value", "low", "high"] (defScope s_is_within) := ⟨rfl, rfl, rfl, by decide +kernel, rfl, by decide +kernel, by decide +kernel⟩
theorem f_is_within (B : Bi mg) (D1 : Df P w K mg base "is_integer" 1 ["value"] (spR K 1 S_isint)) (T : Tx K mg "is_within" s_is_within) : Df P w K mg base "is_within" 2 ["value", "low", "high"] (spR K 3 S_within) := by
  refine dfR T c_is_within rfl (fun _ _ _ _ _ _ us hl => match us, hl with | [_, _, _], _ => rfl) fun f cdv A outer s H E ds r hr hS => ?_
  obtain ⟨v, lo, hi, rfl, rfl⟩ := hS
  refine sds_one (sd_retD (DE.to (de_and (de_cd D1 (hr.mono (by omega)) (by rfl) (da_cons (de_var 0) da_nil) rfl ⟨v, rfl, rfl⟩) fun _ =>
    de_one (de_chain op_le op_le (de_var 1) (de_var 0) (de_var 2))) (by rw [Bool.true_and])) rfl)

abbrev s_is_letter : Stmt := topS 15
theorem c_is_letter : FnScope ["value"] ["value"] (defScope s_is_letter) := ⟨rfl, rfl, rfl, by decide +kernel, rfl, by decide +kernel, by decide +kernel⟩
def S_letter (ds : List PyData) (r : Rt) : Prop := ∃ v : Int, ds = [.int v] ∧ r = .dat (.bool (decide (1 ≤ v) && decide (v ≤ 12)))
theorem f_is_letter (B : Bi mg) (D1 : Df P w K mg base "is_within" 2 ["value", "low", "high"] (spR K 3 S_within)) (T : Tx K mg "is_letter" s_is_letter) : Df P w K mg base "is_letter" 3 ["value"] (spR K 1 S_letter) := by
  refine dfR T c_is_letter rfl (fun _ _ _ _ _ _ us hl => match us, hl with | [_], _ => rfl) fun f cdv A outer s H E ds r hr hS => ?_
  obtain ⟨v, rfl, rfl⟩ := hS
  obtain ⟨t, hm⟩ := B.letter
  exact sds_one (sd_retD (de_cd D1 (hr.mono (by omega)) (by rfl) (da_cons (de_var 0) (da_cons de_int (da_cons (de_globI (by rfl) hm) da_nil))) rfl ⟨v, 1, 12, rfl, rfl⟩) rfl)

abbrev s_is_word : Stmt := topS 16
theorem c_is_word : FnScope ["value", "letter"] ["value"] (defScope s_is_word) := ⟨rfl, rfl, rfl, by decide +kernel, rfl, by decide +kernel, by decide +kernel⟩
def S_word (ds : List PyData) (r : Rt) : Prop := ∃ w : List Int, Wd w ∧ ds = [dW w] ∧ r = .dat (.bool true)
theorem f_is_word (B : Bi mg) (D1 : Df P w K mg base "is_letter" 3 ["value"] (spR K 1 S_letter)) (T : Tx K mg "is_word" s_is_word) : Df P w K mg base "is_word" 4 ["value"] (spR K 1 S_word) := by
  refine dfR T c_is_word rfl (fun _ _ _ _ _ _ us hl => match us, hl with | [_], _ => rfl) fun f cdv A outer s H E ds r hr hS => ?_
  obtain ⟨w, hw, rfl, rfl⟩ := hS
  obtain ⟨t, hm⟩ := B.long
  have hl := hw.1
  refine sds_one (sd_retD (DE.to (de_and (de_isi (by rfl) B.isinstance b_isinstance (by rfl) B.tuple b_tuple (de_var 0) rfl (k := true) (by decide +kernel)) fun _ =>
    de_and (de_cmp (dc_le (de_len (by rfl) B.len b_len (da_cons (de_var 0) da_nil)) (de_globI (by rfl) hm))) fun _ =>
    de_one (ED.mono (ed_allR (B := fun k => k = true) rfl (by rfl) B.all b_all (ar_one (er_fresh (EF.mono (df_map (A := gN 1) (own := [("letter", 1)]) (fun d => .bool true) rfl c_is_word.nd (di_tup (de_var 0)) (blkOk_by (by rfl)) (by rw [dW_len]; omega)
      (fun s H C cl fp => eg_name c_is_word.nd rfl (by exact Or.inl rfl) (by decide)) (fun d hd => ?_)) fun ds h => ⟨w.map fun _ => true, by rw [← h, List.map_map, List.map_map]; rfl, by rw [List.all_map, List.all_eq_true]; exact fun _ _ => rfl⟩)))) fun d ⟨k, h1, h2⟩ => show PyData.bool true = d by rw [h1, h2]))
    (by rw [dW_len]; rw [decide_eq_true (show ((w.length : Nat) : Int) ≤ 12 by omega)]; rfl)) rfl)
  obtain ⟨x, hx, rfl⟩ := List.mem_map.mp hd
  have h2 := hw.2 x hx
  refine ⟨_, rfl, fun s H C cl fp => de_cd D1 (hr.mono (by omega)) (by rfl) (da_cons (de_var 1) da_nil) rfl ⟨x, rfl, ?_⟩⟩
  rw [decide_eq_true h2.1, decide_eq_true h2.2]; rfl

abbrev s_check_word : Stmt := topS 17
theorem c_check_word : FnScope ["value"] ["value"] (defScope s_check_word) := ⟨rfl, rfl, rfl, by decide +kernel, rfl, by decide +kernel, by decide +kernel⟩
def S_checkw (ds : List PyData) (r : Rt) : Prop := ∃ w : List Int, Wd w ∧ ds = [dW w] ∧ r = .dat .none
theorem f_check_word (D1 : Df P w K mg base "is_word" 4 ["value"] (spR K 1 S_word)) (T : Tx K mg "check_word" s_check_word) : Df P w K mg base "check_word" 5 ["value"] (spR K 1 S_checkw) := by
  refine dfR T c_check_word rfl (fun _ _ _ _ _ _ us hl => match us, hl with | [_], _ => rfl) fun f cdv A outer s H E ds r hr hS => ?_
  obtain ⟨w, hw, rfl, rfl⟩ := hS
  refine sds_one (sd_ifD (dt_not (dt_val (de_cd D1 (hr.mono (by omega)) (by rfl) (da_cons (de_var 0) da_nil) rfl ⟨w, hw, rfl, rfl⟩))) (fun h => by cases h) fun _ => sds_nil rfl)

abbrev s_check_most : Stmt := topS 18
theorem c_check_most : FnScope ["value", "letters", "letter"] ["value", "letters"] (defScope s_check_most) := ⟨rfl, rfl, rfl, by decide +kernel, rfl, by decide +kernel, by decide +kernel⟩
def S_most (ds : List PyData) (r : Rt) : Prop := ∃ (m : Int) (w : List Int), Wd w ∧ 1 ≤ m ∧ m ≤ 12 ∧ (∀ x ∈ w, x ≤ m) ∧ ds = [.int m, dW w] ∧ r = .dat .none
theorem f_check_most (B : Bi mg) (D1 : Df P w K mg base "is_letter" 3 ["value"] (spR K 1 S_letter)) (T : Tx K mg "check_most" s_check_most) : Df P w K mg base "check_most" 4 ["value", "letters"] (spR K 2 S_most) := by
  refine dfR T c_check_most rfl (fun _ _ _ _ _ _ us hl => match us, hl with | [_, _], _ => rfl) fun f cdv A outer s H E ds r hr hS => ?_
  obtain ⟨m, w, hw, m1, m2, hm, rfl, rfl⟩ := hS
  have hl := hw.1
  refine sds_one (sd_ifD (k := false) (dt_w (DW.to (dw_or (dt_not (dt_val (de_cd D1 (hr.mono (by omega)) (by rfl) (da_cons (de_var 0) da_nil) rfl ⟨m, rfl, rfl⟩))) fun _ => dw_or1 (dt_val
    (ED.mono (ed_anyR (B := fun k => k = false) rfl (by rfl) B.any b_any (ar_one (er_fresh (EF.mono (df_map (A := gN 2) (own := [("letter", 2)]) (fun d => .bool false) rfl c_check_most.nd (di_tup (de_var 1)) (blkOk_by (by rfl)) (by rw [dW_len]; omega)
      (fun s H C cl fp => eg_name c_check_most.nd rfl (by exact Or.inl rfl) (by decide)) (fun d hd => ?_)) fun ds h => ⟨w.map fun _ => false, by rw [← h, List.map_map, List.map_map]; rfl, by rw [List.any_map, List.any_eq_false]; exact fun _ _ => Bool.false_ne_true⟩)))) fun d ⟨k, h1, h2⟩ => show PyData.bool false = d by rw [h1, h2])))
      (by rw [decide_eq_true m1, decide_eq_true m2]; rfl))) (fun h => by cases h) fun _ => sds_nil rfl)
  obtain ⟨x, hx, rfl⟩ := List.mem_map.mp hd
  have h2 := hm x hx
  refine ⟨_, rfl, fun s H C cl fp => DE.to (de_cmp (dc_gt (de_var 2) (de_var 0))) ?_⟩
  rw [decide_eq_false (by omega)]

abbrev s_amounts_of : Stmt := topS 19
theorem c_amounts_of : FnScope ["word", "greatest", "letter", "own"] ["word"] (defScope s_amounts_of) := ⟨rfl, rfl, rfl, by decide +kernel, rfl, by decide +kernel, by decide +kernel⟩
def S_amts (ds : List PyData) (r : Rt) : Prop := ∃ w : List Int, Wd w ∧ ds = [dW w] ∧ r = .dat (dW (WS.amts w))
theorem filter_len (w : List Int) (i : Int) : (((w.map PyData.int).filter fun d => match d with | .int x => decide (x = i) | _ => false).map id).length = w.countP fun y => decide (y = i) := by
  rw [List.map_id, List.filter_map, List.length_map, List.countP_eq_length_filter]
  rfl
theorem f_amounts_of (B : Bi mg) (T : Tx K mg "amounts_of" s_amounts_of) : Df P w K mg base "amounts_of" 1 ["word"] (spR K 1 S_amts) := by
  refine dfR T c_amounts_of rfl (fun _ _ _ _ _ _ us hl => match us, hl with | [_], _ => rfl) fun f cdv A outer s H E ds r hr hS => ?_
  obtain ⟨w, hw, rfl, rfl⟩ := hS
  have hl := hw.1
  have ht : 0 ≤ WS.top w ∧ WS.top w ≤ 12 := ⟨WS.top_nonneg w, by rcases WS.top_mem w with h | h; omega; exact (hw.2 _ h).2⟩
  refine sds_cons (sd_set c_amounts_of.nd (i := 1) rfl (by exact Or.inl rfl) (de_maxR (m := WS.top w) rfl (by rfl) B.max b_max (ns := 0 :: w) (ar_one (er_fresh (df_lst (DA.to (da_cons de_int (da_star (de_var 0) da_nil)) (by rw [List.append_nil]; rfl)) ?_))) ?_ ?_) fun d hd => ?_)
  · rw [List.length_map, List.length_cons]; omega
  · rcases WS.top_mem w with h | h
    · rw [h]; exact List.mem_cons_self
    · exact List.mem_cons_of_mem _ h
  · intro y hy
    rcases List.mem_cons.mp hy with rfl | hy
    · exact ht.1
    · exact WS.top_ge hy
  subst hd
  refine sds_one (sd_retD (DE.to (de_tupR (by rfl) B.tuple b_tuple (ar_one (er_fresh (df_map (A := gN 2) (own := [("letter", 2)]) (fun d => match d with | .int i => .int ((w.countP fun y => decide (y = i) : Nat) : Int) | _ => .none) rfl c_amounts_of.nd (di_range2 (by rfl) B.range (da_cons de_int (da_cons (de_add (de_var 1) de_int) da_nil)) (by omega)) (blkOk_by (by rfl))
    (by rw [rangeD_len]; omega) (fun s H C cl fp => eg_name c_amounts_of.nd rfl (by exact Or.inr rfl) (by decide)) (fun d hd => ?_))))) ?_) rfl)
  · rw [amts_range] at hd
    obtain ⟨i, hi, rfl⟩ := List.mem_map.mp hd
    refine ⟨_, rfl, fun s H C cl fp => DE.to (de_lenR (by rfl) B.len b_len (ar_one (er_fresh (df_lc (A := gN 3) (own := [("own", 3)]) (fun d => match d with | .int x => decide (x = 1 + (i : Int)) | _ => false) id rfl c_amounts_of.nd (di_tup (de_var 0)) (blkOk_by (by rfl)) (by rw [dW_len]; omega)
      (fun s H C cl fp => eg_name c_amounts_of.nd rfl (by exact Or.inl rfl) (by decide)) (fun d hd => ?_))))) ?_⟩
    · obtain ⟨x, hx, rfl⟩ := List.mem_map.mp hd
      refine ⟨_, rfl, fun s H C cl fp => pts_oneD (DT.to (dt_cmp (dc_eq (u64 hr) (de_var 3) (de_var 2) rfl rfl)) ?_), fun _ s H C cl fp => de_var 3⟩
      show PyData.eqv (.int x) (.int (1 + (i : Int))) = decide (x = 1 + (i : Int))
      rfl
    · rw [filter_len]
  · rw [amts_range, List.map_map]
    show PyData.tuple _ = PyData.tuple _
    congr 1
    unfold WS.amts
    rw [List.map_map]
    rfl
end
end WL

set_option maxRecDepth 100000
namespace WS
/-! ### sizes, places -/
def putIx : List (List Int) → Int → Nat
  | [], _ => 0
  | R :: Rs, x => match (ins R x).2 with
    | none => 0
    | some b => 1 + putIx Rs b
theorem put_some {R : List Int} {Rs : List (List Int)} {x b : Int} (h : (ins R x).2 = some b) : put (R :: Rs) x = (ins R x).1 :: put Rs b ∧ putIx (R :: Rs) x = 1 + putIx Rs b := by
  constructor
  · show (match ins R x with | (R', none) => R' :: Rs | (R', some b) => R' :: put Rs b) = _
    rcases e : ins R x with ⟨R', o⟩
    rw [e] at h
    cases h
    rfl
  · show (match (ins R x).2 with | none => 0 | some b => 1 + putIx Rs b) = _
    rw [h]
theorem put_none {R : List Int} {Rs : List (List Int)} {x : Int} (h : (ins R x).2 = none) : put (R :: Rs) x = (ins R x).1 :: Rs ∧ putIx (R :: Rs) x = 0 := by
  constructor
  · show (match ins R x with | (R', none) => R' :: Rs | (R', some b) => R' :: put Rs b) = _
    rcases e : ins R x with ⟨R', o⟩
    rw [e] at h
    cases h
    rfl
  · show (match (ins R x).2 with | none => 0 | some b => 1 + putIx Rs b) = _
    rw [h]
theorem ins_len : ∀ (R : List Int) (x : Int), (ins R x).1.length ≤ R.length + 1 ∧ R.length ≤ (ins R x).1.length
  | [], x => ⟨Nat.le_refl _, Nat.zero_le _⟩
  | r :: rs, x => by
    by_cases h : x < r
    · rw [ins_lt h]
      simp
    · rw [ins_ge (by omega)]
      have := ins_len rs x
      simp only [List.length_cons]
      omega
theorem ins_len_some : ∀ {R : List Int} {x b : Int}, (ins R x).2 = some b → (ins R x).1.length = R.length
  | [], x, b, h => by cases h
  | r :: rs, x, b, h => by
    by_cases hlt : x < r
    · rw [ins_lt hlt]
      rfl
    · rw [ins_ge (by omega)] at h ⊢
      have := ins_len_some (R := rs) h
      simp only [List.length_cons]
      omega
/-- a bumped letter stands at the place where the first greater one stood -/
theorem ins_at : ∀ {R : List Int} {i : Nat} {x o : Int}, R[i]? = some o → (∀ y ∈ R.take i, y ≤ x) → x < o → ins R x = (R.take i ++ x :: R.drop (i + 1), some o)
  | [], i, x, o, h, _, _ => by cases h
  | r :: rs, 0, x, o, h, _, hlt => by
    cases h
    rw [ins_lt hlt]
    rfl
  | r :: rs, i + 1, x, o, h, hle, hlt => by
    rw [ins_ge (hle r List.mem_cons_self), ins_at (R := rs) (i := i) h (fun y hy => hle y (List.mem_cons_of_mem _ hy)) hlt]
    rfl
def Small (n : Nat) (T : List (List Int)) : Prop := T.length ≤ n ∧ ∀ R ∈ T, R.length ≤ n ∧ 1 ≤ R.length
theorem Small.tail {n : Nat} {R : List Int} {T : List (List Int)} (h : ∀ Q ∈ R :: T, Q.length ≤ n ∧ 1 ≤ Q.length) : ∀ Q ∈ T, Q.length ≤ n ∧ 1 ≤ Q.length := fun Q hQ => h Q (List.mem_cons_of_mem _ hQ)
theorem put_small : ∀ {T : List (List Int)} {n : Nat} {x : Int}, (∀ Q ∈ T, Q.length ≤ n ∧ 1 ≤ Q.length) → (put T x).length ≤ T.length + 1 ∧ ∀ Q ∈ put T x, Q.length ≤ n + 1 ∧ 1 ≤ Q.length
  | [], n, x, h => ⟨Nat.le_refl _, fun Q hQ => by
    have : Q = [x] := by simpa [put] using hQ
    subst this
    exact ⟨Nat.le_add_left 1 n, Nat.le_refl 1⟩⟩
  | R :: T, n, x, h => by
    have hR := h R List.mem_cons_self
    have hi := ins_len R x
    cases e : (ins R x).2 with
    | none =>
      rw [(put_none e).1]
      refine ⟨Nat.le_succ _, fun Q hQ => ?_⟩
      rcases List.mem_cons.mp hQ with rfl | hQ
      · exact ⟨by omega, by omega⟩
      · have := Small.tail h Q hQ
        exact ⟨by omega, this.2⟩
    | some b =>
      rw [(put_some e).1]
      obtain ⟨h1, h2⟩ := put_small (x := b) (Small.tail h)
      refine ⟨by simp only [List.length_cons]; omega, fun Q hQ => ?_⟩
      rcases List.mem_cons.mp hQ with rfl | hQ
      · exact ⟨by omega, by omega⟩
      · exact h2 Q hQ
theorem foldl_small : ∀ {w : List Int} {T : List (List Int)} {n : Nat}, Small n T → Small (n + w.length) (w.foldl put T)
  | [], T, n, h => h
  | x :: w, T, n, h => by
    have := put_small (x := x) h.2
    have h2 : Small (n + 1) (put T x) := ⟨by have := h.1; omega, this.2⟩
    have := foldl_small (w := w) h2
    rw [List.length_cons, show n + (w.length + 1) = n + 1 + w.length by omega]
    exact this
theorem rowsOf_small (w : List Int) : Small w.length (rowsOf w) := by
  have := foldl_small (w := w) (T := []) (n := 0) ⟨Nat.le_refl _, fun R h => by cases h⟩
  rw [Nat.zero_add] at this
  exact this
theorem rowsOf_take (w : List Int) {i : Nat} (h : i < w.length) : rowsOf (w.take (i + 1)) = put (rowsOf (w.take i)) w[i] := by
  rw [List.take_add_one, List.getElem?_eq_getElem h]
  exact rowsOf_concat _ _
theorem wordOf_len : ∀ (T : List (List Int)), (wordOf T).length = (T.map List.length).sum
  | [] => rfl
  | R :: T => by
    show (wordOf T ++ R).length = _
    rw [List.length_append, wordOf_len T, List.map_cons, List.sum_cons]
    omega
theorem wordOf_rowsOf_len (w : List Int) : (wordOf (rowsOf w)).length = w.length := (path_perm (stepsDown_path w)).length_eq
/-- the flipped shape -/
def flip (s : List Int) : List Int := (List.range (s.headD 0).toNat).map fun (i : Nat) => (((s.countP fun p => decide ((i : Int) < p) : Nat)) : Int)
end WS
namespace WL
open PySem PySem.Spec PyProof.Rows L2
theorem cut_pre {α : Type} (xs : List α) {i : Nat} (h : i ≤ xs.length) : cutG xs none (some (i : Int)) = xs.take i := by
  unfold cutG
  rw [HT.sIx_nat, HT.sIx_none, Nat.min_eq_left h, Nat.sub_zero, List.drop_zero]
theorem cut_post {α : Type} (xs : List α) {i : Nat} (h : i ≤ xs.length) : cutG xs (some (i : Int)) none = xs.drop i := by
  unfold cutG
  rw [HT.sIx_nat, HT.sIx_none, Nat.min_eq_left h]
  exact List.take_of_length_le (by rw [List.length_drop]; exact Nat.le_refl _)
theorem cut_mid {α : Type} (xs : List α) {i j : Nat} (h : i ≤ xs.length) (hj : j ≤ xs.length) : cutG xs (some (i : Int)) (some (j : Int)) = (xs.drop i).take (j - i) := by
  unfold cutG
  rw [HT.sIx_nat, HT.sIx_nat, Nat.min_eq_left h, Nat.min_eq_left hj]
theorem dW_take (w : List Int) (i : Nat) : (w.map PyData.int).take i = (w.take i).map PyData.int := List.map_take.symm
theorem dW_drop (w : List Int) (i : Nat) : (w.map PyData.int).drop i = (w.drop i).map PyData.int := List.map_drop.symm
theorem dW_get {w : List Int} {i : Nat} {x : Int} (h : w[i]? = some x) : (w.map PyData.int)[i]? = some (.int x) := by rw [List.getElem?_map, h]; rfl
theorem dW_got {w : List Int} {i : Nat} {d : PyData} (h : (w.map PyData.int)[i]? = some d) : ∃ x, w[i]? = some x ∧ d = .int x := by
  rw [List.getElem?_map] at h
  cases e : w[i]? with
  | none => rw [e] at h; cases h
  | some x => rw [e] at h; cases h; exact ⟨x, rfl, rfl⟩
theorem dR_got {w : List (List Int)} {i : Nat} {d : PyData} (h : (w.map dW)[i]? = some d) : ∃ x, w[i]? = some x ∧ d = dW x := by
  rw [List.getElem?_map] at h
  cases e : w[i]? with
  | none => rw [e] at h; cases h
  | some x => rw [e] at h; cases h; exact ⟨x, rfl, rfl⟩
theorem dR_len (w : List (List Int)) : (w.map dW).length = w.length := List.length_map ..
theorem enumD_got {ds : List PyData} {i : Nat} {d : PyData} (h : (enumD ds)[i]? = some d) : ∃ e, ds[i]? = some e ∧ d = .tuple [.int (i : Nat), e] := by
  have hl : i < ds.length := by rw [← enumD_len]; exact (List.getElem?_eq_some_iff.mp h).1
  have h2 := enumD_at (List.getElem?_eq_getElem hl)
  rw [h] at h2
  exact ⟨_, List.getElem?_eq_getElem hl, Option.some.inj h2⟩
theorem eqv_int (a b : Int) : PyData.eqv (.int a) (.int b) = decide (a = b) := by rfl
theorem depth_words : ∀ (T : List (List Int)), PyData.depthAll (T.map dW) ≤ 1
  | [] => by rw [List.map_nil, PyData.depthAll]; omega
  | R :: T => by
    have := depth_words T
    rw [List.map_cons, PyData.depthAll, show dW R = .tuple (R.map .int) from rfl, PyData.depth, depth_ints R]
    omega
theorem lay_ints : ∀ (R : List Int), PyData.canLayAll0 (R.map .int) = true
  | [] => by rw [List.map_nil, PyData.canLayAll0]
  | x :: R => by rw [List.map_cons, PyData.canLayAll0, PyData.canLay0, lay_ints R]; rfl
theorem lay_words : ∀ (T : List (List Int)), PyData.canLayAll0 (T.map dW) = true
  | [] => by rw [List.map_nil, PyData.canLayAll0]
  | R :: T => by
    have := lay_words T
    rw [List.map_cons, PyData.canLayAll0, this, show dW R = .tuple (R.map .int) from rfl, PyData.canLay0, lay_ints R]
    rfl
theorem shaped_mk {d : PyData} (h1 : d.canLay0 = true) (h2 : d.depth ≤ 64) : SeqAt.shaped d = true := by
  unfold SeqAt.shaped
  rw [h1, decide_eq_true h2]
  rfl
theorem shaped_W (R : List Int) : SeqAt.shaped (dW R) = true := shaped_mk (by rw [show dW R = .tuple (R.map .int) from rfl, PyData.canLay0, lay_ints R]) (by rw [show dW R = .tuple (R.map .int) from rfl, PyData.depth, depth_ints R]; omega)
theorem shaped_R (T : List (List Int)) : SeqAt.shaped (dR T) = true := shaped_mk (by rw [show dR T = .tuple (T.map dW) from rfl, PyData.canLay0, lay_words T]) (by have := depth_words T; rw [show dR T = .tuple (T.map dW) from rfl, PyData.depth]; omega)
theorem shaped_LI (R : List Int) : SeqAt.shaped (.list (R.map .int)) = true := shaped_mk (by rw [PyData.canLay0, lay_ints R]) (by rw [PyData.depth, depth_ints R]; omega)
theorem shaped_LR (T : List (List Int)) : SeqAt.shaped (.list (T.map dW)) = true := shaped_mk (by rw [PyData.canLay0, lay_words T]) (by have := depth_words T; rw [PyData.depth]; omega)
theorem eqv_ints : ∀ (a b : List Int), PyData.eqvAll (a.map .int) (b.map .int) = decide (a = b)
  | [], [] => by rw [List.map_nil, PyData.eqvAll]; rfl
  | [], y :: b => by rw [List.map_nil, List.map_cons, PyData.eqvAll, decide_eq_false (by simp)]
  | x :: a, [] => by rw [List.map_nil, List.map_cons, PyData.eqvAll, decide_eq_false (by simp)]
  | x :: a, y :: b => by
    rw [List.map_cons, List.map_cons, PyData.eqvAll, eqv_ints a b, eqv_int, ← Bool.decide_and]
    exact decide_eq_decide.mpr (by rw [List.cons_eq_cons])
theorem eqv_W (a b : List Int) : PyData.eqv (dW a) (dW b) = decide (a = b) := by
  rw [show dW a = .tuple (a.map .int) from rfl, show dW b = .tuple (b.map .int) from rfl, PyData.eqv, eqv_ints]
theorem eqv_words : ∀ (a b : List (List Int)), PyData.eqvAll (a.map dW) (b.map dW) = decide (a = b)
  | [], [] => by rw [List.map_nil, PyData.eqvAll]; rfl
  | [], y :: b => by rw [List.map_nil, List.map_cons, PyData.eqvAll, decide_eq_false (by simp)]
  | x :: a, [] => by rw [List.map_nil, List.map_cons, PyData.eqvAll, decide_eq_false (by simp)]
  | x :: a, y :: b => by
    rw [List.map_cons, List.map_cons, PyData.eqvAll, eqv_words a b, eqv_W, ← Bool.decide_and]
    exact decide_eq_decide.mpr (by rw [List.cons_eq_cons])
theorem eqv_R (a b : List (List Int)) : PyData.eqv (dR a) (dR b) = decide (a = b) := by
  rw [show dR a = .tuple (a.map dW) from rfl, show dR b = .tuple (b.map dW) from rfl, PyData.eqv, eqv_words]
theorem eqv_LI (a b : List Int) : PyData.eqv (.list (a.map .int)) (.list (b.map .int)) = decide (a = b) := by rw [PyData.eqv, eqv_ints]
theorem eqv_LR (a b : List (List Int)) : PyData.eqv (.list (a.map dW)) (.list (b.map dW)) = decide (a = b) := by rw [PyData.eqv, eqv_words]
end WL

set_option maxRecDepth 100000
set_option maxHeartbeats 4000000
namespace WL
open PySem PySem.Spec PyProof.Rows L2
theorem le5 {n : Nat} (h : Nat.ble n 100000 = true) : n ≤ 100000 := Nat.le_of_ble_eq_true h
section
variable {P : Program} {w : World} {K : PySem.W.Frag} {mg : Str → Option Value} {base : Heap}
abbrev DWord (P : Program) (w : World) (K : PySem.W.Frag) (mg : Str → Option Value) (base : Heap) : Prop := Df P w K mg base "check_word" 5 ["value"] (spR K 1 S_checkw)

abbrev s_amounts : Stmt := topS 20
theorem c_amounts : FnScope ["word"] ["word"] (defScope s_amounts) := ⟨rfl, rfl, rfl, by decide +kernel, rfl, by decide +kernel, by decide +kernel⟩
theorem f_amounts (D0 : DWord P w K mg base) (D1 : Df P w K mg base "amounts_of" 1 ["word"] (spR K 1 S_amts)) (T : Tx K mg "amounts" s_amounts) : Df P w K mg base "amounts" 6 ["word"] (spR K 1 S_amts) := by
  refine dfR T c_amounts rfl (fun _ _ _ _ _ _ us hl => match us, hl with | [_], _ => rfl) fun f cdv A outer s H E ds r hr hS => ?_
  obtain ⟨w, hw, rfl, rfl⟩ := hS
  exact sds_cons (sd_drop (de_cd D0 (hr.mono (by omega)) (by rfl) (da_cons (de_var 0) da_nil) rfl ⟨w, hw, rfl, rfl⟩) fun d _ => sds_one (sd_retD (de_cd D1 (hr.mono (by omega)) (by rfl) (da_cons (de_var 0) da_nil) rfl ⟨w, hw, rfl, rfl⟩) rfl))

abbrev s_turned_of : Stmt := topS 23
theorem c_turned_of : FnScope ["word", "most", "letter"] ["word", "most"] (defScope s_turned_of) := ⟨rfl, rfl, rfl, by decide +kernel, rfl, by decide +kernel, by decide +kernel⟩
def S_turn (ds : List PyData) (r : Rt) : Prop := ∃ (m : Int) (w : List Int), Wd w ∧ 1 ≤ m ∧ m ≤ 12 ∧ (∀ x ∈ w, x ≤ m) ∧ ds = [dW w, .int m] ∧ r = .dat (dW (WS.turn m w))
theorem f_turned_of (B : Bi mg) (T : Tx K mg "turned_of" s_turned_of) : Df P w K mg base "turned_of" 1 ["word", "most"] (spR K 2 S_turn) := by
  refine dfR T c_turned_of rfl (fun _ _ _ _ _ _ us hl => match us, hl with | [_, _], _ => rfl) fun f cdv A outer s H E ds r hr hS => ?_
  obtain ⟨m, w, hw, m1, m2, hm, rfl, rfl⟩ := hS
  have hl := hw.1
  refine sds_one (sd_retD (DE.to (de_tupR (by rfl) B.tuple b_tuple (ar_one (er_fresh (df_map (A := gN 2) (own := [("letter", 2)]) (fun d => match d with | .int i => .int (m + 1 - i) | _ => .none) rfl c_turned_of.nd (di_tup (de_rev (de_var 0))) (blkOk_by (by rfl))
    (by rw [List.length_reverse, dW_len]; omega) (fun s H C cl fp => eg_name c_turned_of.nd rfl (by exact Or.inl rfl) (by decide)) (fun d hd => ?_))))) ?_) rfl)
  · obtain ⟨x, hx, rfl⟩ := List.mem_map.mp (List.mem_reverse.mp hd)
    exact ⟨_, rfl, fun s H C cl fp => de_sub (de_add (de_var 1) de_int) (de_var 2)⟩
  · unfold WS.turn
    rw [← List.map_reverse, List.map_map]
    show _ = PyData.tuple _
    rw [List.map_map]
    rfl
abbrev s_turned : Stmt := topS 24
theorem c_turned : FnScope ["word", "most"] ["word", "most"] (defScope s_turned) := ⟨rfl, rfl, rfl, by decide +kernel, rfl, by decide +kernel, by decide +kernel⟩
theorem f_turned (D0 : DWord P w K mg base) (D1 : Df P w K mg base "check_most" 4 ["value", "letters"] (spR K 2 S_most)) (D2 : Df P w K mg base "turned_of" 1 ["word", "most"] (spR K 2 S_turn)) (T : Tx K mg "turned" s_turned) : Df P w K mg base "turned" 6 ["word", "most"] (spR K 2 S_turn) := by
  refine dfR T c_turned rfl (fun _ _ _ _ _ _ us hl => match us, hl with | [_, _], _ => rfl) fun f cdv A outer s H E ds r hr hS => ?_
  obtain ⟨m, w, hw, m1, m2, hm, rfl, rfl⟩ := hS
  exact sds_cons (sd_drop (de_cd D0 (hr.mono (by omega)) (by rfl) (da_cons (de_var 0) da_nil) rfl ⟨w, hw, rfl, rfl⟩) fun d _ => sds_cons (sd_drop (de_cd D1 (hr.mono (by omega)) (by rfl) (da_cons (de_var 1) (da_cons (de_var 0) da_nil)) rfl ⟨m, w, hw, m1, m2, hm, rfl, rfl⟩) fun d _ =>
    sds_one (sd_retD (de_cd D2 (hr.mono (by omega)) (by rfl) (da_cons (de_var 0) (da_cons (de_var 1) da_nil)) rfl ⟨m, w, hw, m1, m2, hm, rfl, rfl⟩) rfl)))

/-! ### tables -/
abbrev s_word_of_rows : Stmt := topS 26
theorem c_word_of_rows : FnScope ["rows", "found", "row"] ["rows"] (defScope s_word_of_rows) := ⟨rfl, rfl, rfl, by decide +kernel, rfl, by decide +kernel, by decide +kernel⟩
def S_wor (ds : List PyData) (r : Rt) : Prop := ∃ T : List (List Int), (WS.wordOf T).length ≤ 1000 ∧ T.length ≤ 1000 ∧ ds = [dR T] ∧ r = .dat (dW (WS.wordOf T))
theorem wordOf_part : ∀ (T : List (List Int)) (i : Nat), (WS.wordOf T).length = ((T.reverse.take i).flatten).length + ((T.reverse.drop i).flatten).length := by
  intro T i
  rw [← List.length_append, ← List.flatten_append, List.take_append_drop]
  induction T with
  | nil => rfl
  | cons R T ih =>
    show (WS.wordOf T ++ R).length = _
    rw [List.reverse_cons, List.flatten_append, List.length_append, List.length_append, ih]
    simp
theorem wordOf_flat : ∀ (T : List (List Int)), WS.wordOf T = T.reverse.flatten
  | [] => rfl
  | R :: T => by
    show WS.wordOf T ++ R = _
    rw [wordOf_flat T, List.reverse_cons, List.flatten_append]
    simp
theorem f_word_of_rows (T : Tx K mg "word_of_rows" s_word_of_rows) : Df P w K mg base "word_of_rows" 1 ["rows"] (spR K 1 S_wor) := by
  refine dfR T c_word_of_rows rfl (fun _ _ _ _ _ _ us hl => match us, hl with | [_], _ => rfl) fun f cdv A outer s H E ds r hr hS => ?_
  obtain ⟨T, hl, hl2, rfl, rfl⟩ := hS
  refine sds_cons (sd_set c_word_of_rows.nd (i := 1) rfl (by exact Or.inl rfl) (de_tup da_nil (Nat.zero_le _)) fun d hd => ?_)
  subst hd
  refine sds_cons (sd_for (A := gN 2) (js := [2]) (fun ds i δ => ∃ s2, δ = [.dat (dR T), .dat (dW (T.reverse.take i).flatten), s2]) PassesOwn.never rfl (di_tup (de_rev (de_var 0))) (eg_name c_word_of_rows.nd rfl (by exact Or.inl rfl) (by decide)) (fun ds hd => ⟨_, rfl⟩) (fun ds i d δ1 hd hi h1 => ?_) fun ds δ1 hd h1 => ?_)
  · subst hd
    obtain ⟨s2, rfl⟩ := h1
    rw [← List.map_reverse] at hi
    obtain ⟨R, hR, rfl⟩ := dR_got hi
    refine ⟨_, rfl, sds_one (sd_set c_word_of_rows.nd (i := 1) rfl (by exact Or.inl rfl) (de_cat (de_var 1) (de_var 2) ?_) fun d hd => ?_)⟩
    · have := wordOf_part T (i + 1)
      rw [List.take_add_one, hR, List.flatten_append, List.length_append] at this
      rw [dW_len, dW_len]
      simp at this
      simp
      omega
    · subst hd
      refine ⟨.dat (dW R), ?_⟩
      rw [List.take_add_one, hR, List.flatten_append]
      show [_, Slot.dat _, _] = [_, Slot.dat (.tuple (List.map PyData.int (_ ++ _))), _]
      rw [List.map_append]
      simp
  · subst hd
    obtain ⟨s2, rfl⟩ := h1
    refine sds_one (sd_retD (de_var 1) ?_)
    show Rt.dat _ = Rt.dat _
    rw [List.length_reverse, dR_len, wordOf_flat, List.take_of_length_le (by rw [List.length_reverse]; exact Nat.le_refl _)]

abbrev s_put_in_row : Stmt := topS 27
theorem c_put_in_row : FnScope ["row", "letter", "place", "other"] ["row", "letter"] (defScope s_put_in_row) := ⟨rfl, rfl, rfl, by decide +kernel, rfl, by decide +kernel, by decide +kernel⟩
def S_ins (ds : List PyData) (r : Rt) : Prop := ∃ (R : List Int) (x : Int), R.length ≤ 1000 ∧ ds = [dW R, .int x] ∧ r = .dat (.tuple [dW (WS.ins R x).1, dO (WS.ins R x).2])
theorem f_put_in_row (B : Bi mg) (T : Tx K mg "put_in_row" s_put_in_row) : Df P w K mg base "put_in_row" 1 ["row", "letter"] (spR K 2 S_ins) := by
  refine dfR T c_put_in_row rfl (fun _ _ _ _ _ _ us hl => match us, hl with | [_, _], _ => rfl) fun f cdv A outer s H E ds r hr hS => ?_
  obtain ⟨R, x, hl, rfl, rfl⟩ := hS
  refine sds_cons (sd_for (A := g2 (gN 2) (gN 3)) (js := [2, 3]) (fun ds i δ => (∃ s2 s3, δ = [.dat (dW R), .dat (.int x), s2, s3]) ∧ ∀ y ∈ R.take i, y ≤ x) PassesOwn.never rfl (di_enumT (by rfl) B.enumerate (de_var 0))
    (eg_two rfl (eg_name c_put_in_row.nd rfl (by exact Or.inl rfl) (by decide)) (eg_name c_put_in_row.nd rfl (by exact Or.inl rfl) (by decide))) (fun ds hd => ⟨⟨_, _, rfl⟩, fun y hy => by cases hy⟩) (fun ds i d δ1 hd hi h1 => ?_) fun ds δ1 hd h1 => ?_)
  · subst hd
    obtain ⟨⟨s2, s3, rfl⟩, hle⟩ := h1
    obtain ⟨e, he, rfl⟩ := enumD_got hi
    obtain ⟨o, ho, rfl⟩ := dW_got he
    have hiR : i < R.length := (List.getElem?_eq_some_iff.mp ho).1
    refine ⟨_, rfl, sds_one (sd_ifD (dt_cmp (dc_gt (de_var 3) (de_var 1))) (fun hk => ?_) fun hk => ?_)⟩
    · have hlt : x < o := of_decide_eq_true hk
      have e1 := WS.ins_at ho hle hlt
      refine sds_one (sd_retD (de_tup (da_cons (de_tup (da_star (de_cut (de_var 0) dp_none (dp_some (de_var 2))) (da_cons (de_var 1) (da_star (de_cut (de_var 0) (dp_some (de_add (de_var 2) de_int)) dp_none) da_nil))) ?_) (da_cons (de_var 3) da_nil)) (le5 rfl)) ?_)
      · rw [cut_pre _ (by rw [dW_len]; omega), show ((i : Int) + 1) = ((i + 1 : Nat) : Int) by omega, cut_post _ (by rw [dW_len]; omega)]
        simp
        omega
      · show Rt.dat _ = Rt.dat _
        rw [e1]
        rw [cut_pre _ (by rw [dW_len]; omega), show ((i : Int) + 1) = ((i + 1 : Nat) : Int) by omega, cut_post _ (by rw [dW_len]; omega), dW_take, dW_drop, List.append_nil]
        show _ = Rt.dat (.tuple [.tuple (List.map PyData.int (_ ++ _ :: _)), _])
        rw [List.map_append, List.map_cons]
        rfl
    · have hle2 : ¬ x < o := of_decide_eq_false hk
      refine sds_nil ⟨⟨_, _, rfl⟩, fun y hy => ?_⟩
      rw [List.take_add_one, ho] at hy
      rcases List.mem_append.mp hy with hy | hy
      · exact hle y hy
      · have : y = o := by simpa using hy
        omega
  · subst hd
    obtain ⟨⟨s2, s3, rfl⟩, hle⟩ := h1
    rw [enumD_len, dW_len, List.take_of_length_le (Nat.le_refl _)] at hle
    refine sds_one (sd_retD (de_tup (da_cons (de_tup (da_star (de_var 0) (da_cons (de_var 1) da_nil)) ?_) (da_cons de_non da_nil)) (le5 rfl)) ?_)
    · simp; omega
    · show Rt.dat _ = Rt.dat _
      rw [WS.ins_all_le hle]
      show _ = Rt.dat (.tuple [.tuple (List.map PyData.int (_ ++ _)), _])
      rw [List.map_append]
      rfl

abbrev s_put_in_rows : Stmt := topS 28
theorem c_put_in_rows : FnScope ["rows", "letter", "found", "index", "row", "fresh"] ["rows", "letter"] (defScope s_put_in_rows) := ⟨rfl, rfl, rfl, by decide +kernel, rfl, by decide +kernel, by decide +kernel⟩
def S_put (ds : List PyData) (r : Rt) : Prop := ∃ (T : List (List Int)) (x : Int), WS.Small 100 T ∧ ds = [dR T, .int x] ∧ r = .dat (.tuple [dR (WS.put T x), .int (WS.putIx T x)])
theorem isN_O (o : Option Int) : isNone (dO o) = decide (o = none) := by cases o <;> rfl
theorem f_put_in_rows (B : Bi mg) (D1 : Df P w K mg base "put_in_row" 1 ["row", "letter"] (spR K 2 S_ins)) (T : Tx K mg "put_in_rows" s_put_in_rows) : Df P w K mg base "put_in_rows" 2 ["rows", "letter"] (spR K 2 S_put) := by
  refine dfR T c_put_in_rows rfl (fun _ _ _ _ _ _ us hl => match us, hl with | [_, _], _ => rfl) fun f cdv A outer s H E ds r hr hS => ?_
  obtain ⟨T, x, hl, rfl, rfl⟩ := hS
  have hl1 := hl.1
  refine sds_cons (sd_setF c_put_in_rows.nd (i := 2) rfl (by exact Or.inl rfl) (df_lst da_nil (Nat.zero_le _)) fun d hd => ?_)
  subst hd
  refine sds_cons (sd_for (A := g2 (gN 3) (gN 4)) (js := [3, 4]) (fun ds i δ => ∃ y F s3 s4 s5, δ = [.dat (dR T), .dat (.int y), .own (F.map dW), s3, s4, s5] ∧ WS.put T x = F ++ WS.put (T.drop i) y ∧ F.length = i ∧ WS.putIx T x = i + WS.putIx (T.drop i) y) PassesOwn.never rfl (di_enumT (by rfl) B.enumerate (de_var 0))
    (eg_two rfl (eg_name c_put_in_rows.nd rfl (by exact Or.inl rfl) (by decide)) (eg_name c_put_in_rows.nd rfl (by exact Or.inl rfl) (by decide))) (fun ds hd => ⟨x, [], _, _, _, rfl, rfl, rfl, (Nat.zero_add _).symm⟩) (fun ds i d δ1 hd hi h1 => ?_) fun ds δ1 hd h1 => ?_)
  · subst hd
    obtain ⟨y, F, s3, s4, s5, rfl, hp, hF, hx⟩ := h1
    obtain ⟨e, he, rfl⟩ := enumD_got hi
    obtain ⟨R, hR, rfl⟩ := dR_got he
    obtain ⟨hiT, eR⟩ := List.getElem?_eq_some_iff.mp hR
    have hRl := (hl.2 R (List.mem_of_getElem? hR)).1
    have hd : T.drop i = R :: T.drop (i + 1) := by rw [← eR]; exact List.drop_eq_getElem_cons hiT
    refine ⟨_, rfl, sds_cons (sd_asg (A := g2 (gN 5) (gN 1)) (js := [5, 1]) (de_cd D1 (hr.mono (by omega)) (by rfl) (da_cons (de_var 4) (da_cons (de_var 1) da_nil)) rfl ⟨R, y, by omega, rfl, rfl⟩)
      (eg_two rfl (eg_name c_put_in_rows.nd rfl (by exact Or.inl rfl) (by decide)) (eg_name c_put_in_rows.nd rfl (by exact Or.inl rfl) (by decide))) fun d hd' => ⟨_, by subst hd'; rfl, ?_⟩)⟩
    refine sds_cons (sd_append (i := 2) (pe_var rfl (by exact Or.inl rfl)) rfl (by rw [dR_len]; omega) (da_cons (de_var 5) da_nil) fun es hes => ⟨_, hes.symm, ?_⟩)
    refine sds_one (sd_ifD (dt_cmp (dc_isN (de_var 1))) (fun hk => ?_) fun hk => ?_)
    · rw [isN_O] at hk
      have hn : (WS.ins R y).2 = none := of_decide_eq_true hk
      obtain ⟨p1, p2⟩ := WS.put_none (Rs := T.drop (i + 1)) hn
      refine sds_one (sd_retD (de_tup (da_cons (de_tup (da_starR (dr_own 2) (da_star (de_cut (de_var 0) (dp_some (de_add (de_var 3) de_int)) dp_none) da_nil)) ?_) (da_cons (de_var 3) da_nil)) (le5 rfl)) ?_)
      · rw [show ((i : Int) + 1) = ((i + 1 : Nat) : Int) by omega, cut_post _ (by rw [dR_len]; omega)]
        simp
        omega
      · show Rt.dat _ = Rt.dat _
        rw [hp, hx, hd, p1, p2, show ((i : Int) + 1) = ((i + 1 : Nat) : Int) by omega, cut_post _ (by rw [dR_len]; omega), ← List.map_drop]
        show _ = Rt.dat (.tuple [.tuple (List.map dW (_ ++ _ :: _)), _])
        rw [List.map_append, List.map_cons, List.append_nil, List.append_assoc]
        rfl
    · rw [isN_O] at hk
      have hn : ¬ (WS.ins R y).2 = none := of_decide_eq_false hk
      obtain ⟨b, hb⟩ : ∃ b, (WS.ins R y).2 = some b := by
        cases e : (WS.ins R y).2 with
        | none => exact absurd e hn
        | some b => exact ⟨b, rfl⟩
      obtain ⟨p1, p2⟩ := WS.put_some (Rs := T.drop (i + 1)) hb
      refine sds_nil ⟨b, F ++ [(WS.ins R y).1], .dat (.int (i : Nat)), .dat (dW R), .dat (dW (WS.ins R y).1), ?_, ?_, ?_, ?_⟩
      · rw [hb, List.map_append]
        rfl
      · rw [hp, hd, p1, List.append_assoc]
        rfl
      · rw [List.length_append, hF]
        rfl
      · rw [hx, hd, p2]
        omega
  · subst hd
    obtain ⟨y, F, s3, s4, s5, rfl, hp, hF, hx⟩ := h1
    rw [enumD_len, dR_len] at hp hF hx
    rw [List.drop_of_length_le (Nat.le_refl _)] at hp hx
    refine sds_one (sd_retD (de_tup (da_cons (de_tup (da_starR (dr_own 2) (da_cons (de_tup (da_cons (de_var 1) da_nil) (le5 rfl)) da_nil)) ?_) (da_cons (de_len (by rfl) B.len b_len (da_cons (de_var 0) da_nil)) da_nil)) (le5 rfl)) ?_)
    · simp; omega
    · show Rt.dat _ = Rt.dat _
      rw [hp, hx, dR_len]
      show _ = Rt.dat (.tuple [.tuple (List.map dW (_ ++ _)), _])
      rw [List.map_append]
      rfl

abbrev s_rows_of_word : Stmt := topS 29
theorem c_rows_of_word : FnScope ["word", "rows", "letter"] ["word"] (defScope s_rows_of_word) := ⟨rfl, rfl, rfl, by decide +kernel, rfl, by decide +kernel, by decide +kernel⟩
def S_rows (ds : List PyData) (r : Rt) : Prop := ∃ w : List Int, w.length ≤ 20 ∧ ds = [dW w] ∧ r = .dat (dR (WS.rowsOf w))
theorem f_rows_of_word (D1 : Df P w K mg base "put_in_rows" 2 ["rows", "letter"] (spR K 2 S_put)) (T : Tx K mg "rows_of_word" s_rows_of_word) : Df P w K mg base "rows_of_word" 3 ["word"] (spR K 1 S_rows) := by
  refine dfR T c_rows_of_word rfl (fun _ _ _ _ _ _ us hl => match us, hl with | [_], _ => rfl) fun f cdv A outer s H E ds r hr hS => ?_
  obtain ⟨w, hl, rfl, rfl⟩ := hS
  refine sds_cons (sd_set c_rows_of_word.nd (i := 1) rfl (by exact Or.inl rfl) (de_tup da_nil (Nat.zero_le _)) fun d hd => ?_)
  subst hd
  refine sds_cons (sd_for (A := gN 2) (js := [2]) (fun ds i δ => ∃ s2, δ = [.dat (dW w), .dat (dR (WS.rowsOf (w.take i))), s2]) PassesOwn.never rfl (di_tup (de_var 0)) (eg_name c_rows_of_word.nd rfl (by exact Or.inl rfl) (by decide)) (fun ds hd => ⟨_, rfl⟩) (fun ds i d δ1 hd hi h1 => ?_) fun ds δ1 hd h1 => ?_)
  · subst hd
    obtain ⟨s2, rfl⟩ := h1
    obtain ⟨x, hx, rfl⟩ := dW_got hi
    obtain ⟨hiw, ex⟩ := List.getElem?_eq_some_iff.mp hx
    have sm := WS.rowsOf_small (w.take i)
    rw [List.length_take] at sm
    refine ⟨_, rfl, sds_one (sd_set c_rows_of_word.nd (i := 1) rfl (by exact Or.inl rfl) (de_ix (i := 0) (de_cd D1 (hr.mono (by omega)) (by rfl) (da_cons (de_var 1) (da_cons (de_var 2) da_nil)) rfl ⟨_, x, ⟨by have := sm.1; omega, fun R hR => by have := sm.2 R hR; omega⟩, rfl, rfl⟩) de_int rfl) fun d hd => ?_)⟩
    subst hd
    refine ⟨.dat (.int x), ?_⟩
    rw [WS.rowsOf_take w hiw, ex]
    rfl
  · subst hd
    obtain ⟨s2, rfl⟩ := h1
    refine sds_one (sd_retD (de_var 1) ?_)
    show Rt.dat _ = Rt.dat _
    rw [dW_len, List.take_of_length_le (Nat.le_refl _)]

abbrev s_shape_of : Stmt := topS 30
theorem c_shape_of : FnScope ["rows", "row"] ["rows"] (defScope s_shape_of) := ⟨rfl, rfl, rfl, by decide +kernel, rfl, by decide +kernel, by decide +kernel⟩
def shp (T : List (List Int)) : List Int := T.map fun R => (R.length : Int)
def S_shape (ds : List PyData) (r : Rt) : Prop := ∃ T : List (List Int), WS.Small 100 T ∧ ds = [dR T] ∧ r = .dat (dW (shp T))
theorem f_shape_of (B : Bi mg) (T : Tx K mg "shape_of" s_shape_of) : Df P w K mg base "shape_of" 1 ["rows"] (spR K 1 S_shape) := by
  refine dfR T c_shape_of rfl (fun _ _ _ _ _ _ us hl => match us, hl with | [_], _ => rfl) fun f cdv A outer s H E ds r hr hS => ?_
  obtain ⟨T, hl, rfl, rfl⟩ := hS
  have hl1 := hl.1
  refine sds_one (sd_retD (DE.to (de_tupR (by rfl) B.tuple b_tuple (ar_one (er_fresh (df_map (A := gN 1) (own := [("row", 1)]) (fun d => match d with | .tuple ds => .int ds.length | _ => .none) rfl c_shape_of.nd (di_tup (de_var 0)) (blkOk_by (by rfl))
    (by rw [dR_len]; omega) (fun s H C cl fp => eg_name c_shape_of.nd rfl (by exact Or.inl rfl) (by decide)) (fun d hd => ?_))))) ?_) rfl)
  · obtain ⟨R, hR, rfl⟩ := List.mem_map.mp hd
    exact ⟨_, rfl, fun s H C cl fp => de_len (by rfl) B.len b_len (da_cons (de_var 1) da_nil)⟩
  · show PyData.tuple _ = PyData.tuple _
    unfold shp
    rw [List.map_map, List.map_map]
    congr 1
    apply List.map_congr_left
    intro R hR
    show PyData.int ((R.map PyData.int).length : Int) = .int (R.length : Int)
    rw [dW_len]
end
end WL

set_option maxRecDepth 100000
set_option maxHeartbeats 4000000
namespace WS
theorem after_at (u v z : Int) : ∀ (p s : List Int), after (p ++ u :: v :: z :: s) p.length = (three u v z).map fun t => p ++ t.1 :: t.2.1 :: t.2.2 :: s
  | [], s => rfl
  | d :: p, s => by
    simp only [List.cons_append, List.length_cons, after, after_at u v z p s, Option.map_map]
    rfl
theorem after_far {w : List Int} {k : Nat} (h : w.length < k + 3) : after w k = none := by
  cases e : after w k with
  | none => rfl
  | some x => have := (after_len e).2; omega
/-- three letters at a place -/
theorem parts_at {w : List Int} {k : Nat} (h : k + 3 ≤ w.length) : ∃ u v z, w[k]? = some u ∧ w[k + 1]? = some v ∧ w[k + 2]? = some z ∧ w = w.take k ++ u :: v :: z :: w.drop (k + 3) := by
  refine ⟨w[k], w[k + 1], w[k + 2], List.getElem?_eq_getElem _, List.getElem?_eq_getElem _, List.getElem?_eq_getElem _, ?_⟩
  have e1 : w.drop k = w[k] :: w.drop (k + 1) := List.drop_eq_getElem_cons (by omega)
  have e2 : w.drop (k + 1) = w[k + 1] :: w.drop (k + 1 + 1) := List.drop_eq_getElem_cons (by omega)
  have e3 : w.drop (k + 2) = w[k + 2] :: w.drop (k + 2 + 1) := List.drop_eq_getElem_cons (by omega)
  conv => lhs; rw [← List.take_append_drop k w, e1, e2, e3]
theorem after_parts_at {w : List Int} {k : Nat} {u v z : Int} (h : k + 3 ≤ w.length) (e : w = w.take k ++ u :: v :: z :: w.drop (k + 3)) : after w k = (three u v z).map fun t => w.take k ++ t.1 :: t.2.1 :: t.2.2 :: w.drop (k + 3) := by
  have hl : (w.take k).length = k := by rw [List.length_take]; omega
  have := after_at u v z (w.take k) (w.drop (k + 3))
  rw [← e, hl] at this
  exact this
end WS
namespace WL
open PySem PySem.Spec PyProof.Rows L2
def d3 : Option (Int × Int × Int) → PyData
  | none => .none
  | some (a, b, c) => .tuple [.int a, .int b, .int c]
def dWo : Option (List Int) → PyData
  | none => .none
  | some w => dW w
theorem isN_3 (o : Option (Int × Int × Int)) : isNone (d3 o) = decide (o = none) := by cases o <;> rfl
theorem isN_Wo (o : Option (List Int)) : isNone (dWo o) = decide (o = none) := by cases o <;> rfl
section
variable {P : Program} {w : World} {K : PySem.W.Frag} {mg : Str → Option Value} {base : Heap}
abbrev s_fresh_three : Stmt := topS 32
theorem c_fresh_three : FnScope ["first", "middle", "last"] ["first", "middle", "last"] (defScope s_fresh_three) := ⟨rfl, rfl, rfl, by decide +kernel, rfl, by decide +kernel, by decide +kernel⟩
def S_three (ds : List PyData) (r : Rt) : Prop := ∃ u v z : Int, ds = [.int u, .int v, .int z] ∧ r = .dat (d3 (WS.three u v z))
theorem or_and_dec (a b c d : Prop) [Decidable a] [Decidable b] [Decidable c] [Decidable d] : ((decide a && decide b) || (decide c && decide d)) = decide ((a ∧ b) ∨ (c ∧ d)) := by
  rw [Bool.decide_or, Bool.decide_and, Bool.decide_and]
theorem f_fresh_three (T : Tx K mg "fresh_three" s_fresh_three) : Df P w K mg base "fresh_three" 1 ["first", "middle", "last"] (spR K 3 S_three) := by
  refine dfR T c_fresh_three rfl (fun _ _ _ _ _ _ us hl => match us, hl with | [_, _, _], _ => rfl) fun f cdv A outer s H E ds r hr hS => ?_
  obtain ⟨u, v, z, rfl, rfl⟩ := hS
  refine sds_cons (sd_ifD (DT.to (dt_w (dw_or (dt_chain op_lt op_le (de_var 1) (de_var 0) (de_var 2)) fun _ => dw_or1 (dt_chain op_lt op_le (de_var 2) (de_var 0) (de_var 1)))) (or_and_dec ..)) (fun hk => ?_) fun hk => ?_)
  · have h1 := of_decide_eq_true hk
    refine sds_one (sd_retD (de_tup (da_cons (de_var 0) (da_cons (de_var 2) (da_cons (de_var 1) da_nil))) (le5 rfl)) ?_)
    show Rt.dat _ = Rt.dat _
    rw [WS.three, if_pos h1]
    rfl
  · have h1 := of_decide_eq_false hk
    refine sds_nil (sds_cons (sd_ifD (DT.to (dt_w (dw_or (dt_chain op_le op_lt (de_var 0) (de_var 2) (de_var 1)) fun _ => dw_or1 (dt_chain op_le op_lt (de_var 1) (de_var 2) (de_var 0)))) (or_and_dec ..)) (fun hk2 => ?_) fun hk2 => ?_))
    · have h2 := of_decide_eq_true hk2
      refine sds_one (sd_retD (de_tup (da_cons (de_var 1) (da_cons (de_var 0) (da_cons (de_var 2) da_nil))) (le5 rfl)) ?_)
      show Rt.dat _ = Rt.dat _
      rw [WS.three, if_neg h1, if_pos h2]
      rfl
    · have h2 := of_decide_eq_false hk2
      refine sds_nil (sds_one (sd_retD de_non ?_))
      show Rt.dat _ = Rt.dat _
      rw [WS.three, if_neg h1, if_neg h2]
      rfl

abbrev s_word_after : Stmt := topS 33
theorem c_word_after : FnScope ["word", "place", "three"] ["word", "place"] (defScope s_word_after) := ⟨rfl, rfl, rfl, by decide +kernel, rfl, by decide +kernel, by decide +kernel⟩
def S_after (ds : List PyData) (r : Rt) : Prop := ∃ (w : List Int) (k : Nat), w.length ≤ 1000 ∧ ds = [dW w, .int (k : Int)] ∧ r = .dat (dWo (WS.after w k))
theorem atI_W {w : List Int} {k : Nat} {x : Int} (h : w[k]? = some x) : atI (w.map PyData.int) (k : Int) = some (.int x) := atI_nat (dW_get h)
theorem f_word_after (B : Bi mg) (D1 : Df P w K mg base "fresh_three" 1 ["first", "middle", "last"] (spR K 3 S_three)) (T : Tx K mg "word_after" s_word_after) : Df P w K mg base "word_after" 2 ["word", "place"] (spR K 2 S_after) := by
  refine dfR T c_word_after rfl (fun _ _ _ _ _ _ us hl => match us, hl with | [_, _], _ => rfl) fun f cdv A outer s H E ds r hr hS => ?_
  obtain ⟨w, k, hl, rfl, rfl⟩ := hS
  refine sds_cons (sd_ifD (dt_cmp (dc_gt (de_add (de_var 1) de_int) (de_len (by rfl) B.len b_len (da_cons (de_var 0) da_nil)))) (fun hk => ?_) fun hk => ?_)
  · have h1 := of_decide_eq_true hk
    rw [dW_len] at h1
    refine sds_one (sd_retD de_non ?_)
    rw [WS.after_far (by omega)]
    rfl
  · have h1 := of_decide_eq_false hk
    rw [dW_len] at h1
    have h2 : k + 3 ≤ w.length := by omega
    obtain ⟨u, v, z, e1, e2, e3, ew⟩ := WS.parts_at h2
    refine sds_nil (sds_cons (sd_set c_word_after.nd (i := 2) rfl (by exact Or.inl rfl) (de_cd D1 (hr.mono (by omega)) (by rfl) (da_cons (de_ix (de_var 0) (de_var 1) (atI_W e1)) (da_cons (de_ix (i := ((k + 1 : Nat) : Int)) (de_var 0) (DE.to (de_add (de_var 1) de_int) rfl) (atI_W e2)) (da_cons (de_ix (i := ((k + 2 : Nat) : Int)) (de_var 0) (DE.to (de_add (de_var 1) de_int) rfl) (atI_W e3)) da_nil))) rfl ⟨u, v, z, rfl, rfl⟩) fun d hd => ?_))
    subst hd
    refine sds_one (sd_ret (R := fun d => d = dWo (WS.after w k)) (ed_if (dt_cmp (dc_isN (de_var 2))) (fun hk2 => ?_) fun hk2 => ?_) fun d hd => by subst hd; rfl)
    · rw [isN_3] at hk2
      have h3 : WS.three u v z = none := of_decide_eq_true hk2
      refine ED.mono de_non fun d hd => ?_
      rw [WS.after_parts_at h2 ew, h3, ← hd]
      rfl
    · rw [isN_3] at hk2
      have h3 : ¬ WS.three u v z = none := of_decide_eq_false hk2
      obtain ⟨⟨a, b, c⟩, h4⟩ : ∃ t, WS.three u v z = some t := by
        cases e : WS.three u v z with
        | none => exact absurd e h3
        | some b => exact ⟨b, rfl⟩
      refine ED.mono (de_tup (da_star (de_cut (de_var 0) dp_none (dp_some (de_var 1))) (da_star (ds1 := [.int a, .int b, .int c]) (de_var 2 (hδ := by rw [h4]; rfl)) (da_star (de_cut (de_var 0) (dp_some (de_add (de_var 1) de_int)) dp_none) da_nil))) ?_) fun d hd => ?_
      · rw [cut_pre _ (by rw [dW_len]; omega), show ((k : Int) + 3) = ((k + 3 : Nat) : Int) by omega, cut_post _ (by rw [dW_len]; omega)]
        simp
        omega
      · rw [WS.after_parts_at h2 ew, h4, ← hd, cut_pre _ (by rw [dW_len]; omega), show ((k : Int) + 3) = ((k + 3 : Nat) : Int) by omega, cut_post _ (by rw [dW_len]; omega), dW_take, dW_drop, List.append_nil]
        show _ = PyData.tuple (List.map PyData.int (_ ++ _ :: _ :: _ :: _))
        rw [List.map_append]
        rfl

abbrev s_moved : Stmt := topS 34
theorem c_moved : FnScope ["word", "place", "found"] ["word", "place"] (defScope s_moved) := ⟨rfl, rfl, rfl, by decide +kernel, rfl, by decide +kernel, by decide +kernel⟩
def S_moved (ds : List PyData) (r : Rt) : Prop := ∃ (w v : List Int) (k : Nat), Wd w ∧ WS.after w k = some v ∧ ds = [dW w, .int (k : Int)] ∧ r = .dat (dW v)
theorem f_moved (B : Bi mg) (D0 : DWord P w K mg base) (D1 : Df P w K mg base "is_within" 2 ["value", "low", "high"] (spR K 3 S_within)) (D2 : Df P w K mg base "word_after" 2 ["word", "place"] (spR K 2 S_after)) (T : Tx K mg "moved" s_moved) : Df P w K mg base "moved" 6 ["word", "place"] (spR K 2 S_moved) := by
  refine dfR T c_moved rfl (fun _ _ _ _ _ _ us hl => match us, hl with | [_, _], _ => rfl) fun f cdv A outer s H E ds r hr hS => ?_
  obtain ⟨w, v, k, hw, hv, rfl, rfl⟩ := hS
  have hl := hw.1
  have h2 := (WS.after_len hv).2
  refine sds_cons (sd_drop (de_cd D0 (hr.mono (by omega)) (by rfl) (da_cons (de_var 0) da_nil) rfl ⟨w, hw, rfl, rfl⟩) fun d _ => ?_)
  refine sds_cons (sd_ifD (k := false) (dt_not (k := true) (dt_val (DE.to (de_cd D1 (hr.mono (by omega)) (by rfl) (da_cons (de_var 1) (da_cons de_int (da_cons (de_sub (de_len (by rfl) B.len b_len (da_cons (de_var 0) da_nil)) de_int) da_nil))) rfl ⟨_, _, _, rfl, rfl⟩) ?_))) (fun hk => by cases hk) fun hk => ?_)
  · rw [dW_len, decide_eq_true (by omega), decide_eq_true (by omega)]
    rfl
  refine sds_nil (sds_cons (sd_set c_moved.nd (i := 2) rfl (by exact Or.inl rfl) (de_cd D2 (hr.mono (by omega)) (by rfl) (da_cons (de_var 0) (da_cons (de_var 1) da_nil)) rfl ⟨w, k, by omega, rfl, by rw [hv, dWo]⟩) fun d hd => ?_))
  subst hd
  refine sds_cons (sd_ifD (dt_cmp (dc_isN (de_var 2))) (fun hk => by cases hk) fun hk => ?_)
  exact sds_nil (sds_one (sd_retD (de_var 2) rfl))

abbrev s_are_alike : Stmt := topS 35
theorem c_are_alike : FnScope ["word", "other"] ["word", "other"] (defScope s_are_alike) := ⟨rfl, rfl, rfl, by decide +kernel, rfl, by decide +kernel, by decide +kernel⟩
def S_alike (ds : List PyData) (r : Rt) : Prop := ∃ w v : List Int, Wd w ∧ Wd v ∧ ds = [dW w, dW v] ∧ r = .dat (.bool (decide (WS.rowsOf w = WS.rowsOf v)))
theorem f_are_alike (D1 : Df P w K mg base "rows_of_word" 3 ["word"] (spR K 1 S_rows)) (T : Tx K mg "are_alike" s_are_alike) : Df P w K mg base "are_alike" 4 ["word", "other"] (spR K 2 S_alike) := by
  refine dfR T c_are_alike rfl (fun _ _ _ _ _ _ us hl => match us, hl with | [_, _], _ => rfl) fun f cdv A outer s H E ds r hr hS => ?_
  obtain ⟨w, v, hw, hv, rfl, rfl⟩ := hS
  exact sds_one (sd_retD (DE.to (de_cmp (dc_eq (u64 hr) (de_cd D1 (hr.mono (by omega)) (by rfl) (da_cons (de_var 0) da_nil) rfl ⟨w, by have := hw.1; omega, rfl, rfl⟩) (de_cd D1 (hr.mono (by omega)) (by rfl) (da_cons (de_var 1) da_nil) rfl ⟨v, by have := hv.1; omega, rfl, rfl⟩) (shaped_R _) (shaped_R _))) (by rw [eqv_R])) rfl)

abbrev s_check_two : Stmt := topS 36
theorem c_check_two : FnScope ["word", "other"] ["word", "other"] (defScope s_check_two) := ⟨rfl, rfl, rfl, by decide +kernel, rfl, by decide +kernel, by decide +kernel⟩
def S_two (ds : List PyData) (r : Rt) : Prop := ∃ w v : List Int, Wd w ∧ Wd v ∧ ds = [dW w, dW v] ∧ r = .dat .none
theorem f_check_two (D0 : DWord P w K mg base) (T : Tx K mg "check_two" s_check_two) : Df P w K mg base "check_two" 6 ["word", "other"] (spR K 2 S_two) := by
  refine dfR T c_check_two rfl (fun _ _ _ _ _ _ us hl => match us, hl with | [_, _], _ => rfl) fun f cdv A outer s H E ds r hr hS => ?_
  obtain ⟨w, v, hw, hv, rfl, rfl⟩ := hS
  exact sds_cons (sd_drop (de_cd D0 (hr.mono (by omega)) (by rfl) (da_cons (de_var 0) da_nil) rfl ⟨w, hw, rfl, rfl⟩) fun d _ => sds_cons (sd_drop (de_cd D0 (hr.mono (by omega)) (by rfl) (da_cons (de_var 1) da_nil) rfl ⟨v, hv, rfl, rfl⟩) fun d _ => sds_nil rfl))

abbrev s_alike : Stmt := topS 37
theorem c_alike : FnScope ["word", "other"] ["word", "other"] (defScope s_alike) := ⟨rfl, rfl, rfl, by decide +kernel, rfl, by decide +kernel, by decide +kernel⟩
theorem f_alike (D1 : Df P w K mg base "check_two" 6 ["word", "other"] (spR K 2 S_two)) (D2 : Df P w K mg base "are_alike" 4 ["word", "other"] (spR K 2 S_alike)) (T : Tx K mg "alike" s_alike) : Df P w K mg base "alike" 7 ["word", "other"] (spR K 2 S_alike) := by
  refine dfR T c_alike rfl (fun _ _ _ _ _ _ us hl => match us, hl with | [_, _], _ => rfl) fun f cdv A outer s H E ds r hr hS => ?_
  obtain ⟨w, v, hw, hv, rfl, rfl⟩ := hS
  exact sds_cons (sd_drop (de_cd D1 (hr.mono (by omega)) (by rfl) (da_cons (de_var 0) (da_cons (de_var 1) da_nil)) rfl ⟨w, v, hw, hv, rfl, rfl⟩) fun d _ => sds_one (sd_retD (de_cd D2 (hr.mono (by omega)) (by rfl) (da_cons (de_var 0) (da_cons (de_var 1) da_nil)) rfl ⟨w, v, hw, hv, rfl, rfl⟩) rfl))
end
end WL

set_option maxRecDepth 100000
set_option maxHeartbeats 4000000
namespace WL
open PySem PySem.Spec PyProof.Rows L2
section
variable {X : Cx} {c : Option Addr} {δ : List Slot} {D : DEnds} {a b e : Expr} {es : List Expr} {pos p p2 px py pt : Pos} {kt k2 : Nat} {d : PyData} {ds ds2 : List PyData} {L : List PyData → Prop} {R : PyData → Prop} {x y : Str} {i j : Nat}
/-- x, y = data, a new list -/
theorem sd_parDF {pt2 : Pos} (hc : X.calm = true) (hN : X.N.Nodup) (hi : X.N[i]? = some x) (hj : X.N[j]? = some y) (hij : i ≠ j) (hx : X.env.scope.names.lookup x = some .local) (hy : X.env.scope.names.lookup y = some .local) (ha : DE X c a δ d) (hb : DF X c b δ ds) (h : D.nx ((δ.set i (.dat d)).set j (.own ds)))
    (hw : swappedStores [.Tuple [.Name x px, .Name y py] kt pt] (.Tuple [a, b] k2 pt2) X.env = pure (some [x, y])) (hs : swapsWithSole [.Tuple [.Name x px, .Name y py] kt pt] (.Tuple [a, b] k2 pt2) pos.line X.env = pure false := by rfl)
    (h1 : starEach (a :: [b]) X.env = (false, eval a X.env) :: starEach [b] X.env := by rfl) (h2 : starEach (b :: []) X.env = (false, eval b X.env) :: starEach [] X.env := by rfl) :
    SD X c (.Assign [.Tuple [.Name x px, .Name y py] kt pt] (.Tuple [a, b] k2 pt2) pos) δ D := ps_imp (ps_par hc hN hi hj hij hx hy (pa_cons ha (pa_cons hb pa_nil h2) h1) hw hs) fun D' σ H ⟨H0, r, k⟩ =>
  ⟨⟨H0, r⟩, fun v d1 H1 x1 t1 q1 => ⟨⟨H0, r.mono x1⟩, fun q vs ds1 H2 n x2 y2 t2 q2 => ⟨v, .ref q, rfl, by subst q1 q2; exact k.nx _ _ _ (((r.mono x1).setD i t1).setF x2 j n y2 t2) h⟩⟩⟩
/-- x, y = two new lists -/
theorem sd_parFF {pt2 : Pos} (hc : X.calm = true) (hN : X.N.Nodup) (hi : X.N[i]? = some x) (hj : X.N[j]? = some y) (hij : i ≠ j) (hx : X.env.scope.names.lookup x = some .local) (hy : X.env.scope.names.lookup y = some .local) (ha : DF X c a δ ds2) (hb : DF X c b δ ds) (h : D.nx ((δ.set i (.own ds2)).set j (.own ds)))
    (hw : swappedStores [.Tuple [.Name x px, .Name y py] kt pt] (.Tuple [a, b] k2 pt2) X.env = pure (some [x, y])) (hs : swapsWithSole [.Tuple [.Name x px, .Name y py] kt pt] (.Tuple [a, b] k2 pt2) pos.line X.env = pure false := by rfl)
    (h1 : starEach (a :: [b]) X.env = (false, eval a X.env) :: starEach [b] X.env := by rfl) (h2 : starEach (b :: []) X.env = (false, eval b X.env) :: starEach [] X.env := by rfl) :
    SD X c (.Assign [.Tuple [.Name x px, .Name y py] kt pt] (.Tuple [a, b] k2 pt2) pos) δ D := ps_imp (ps_par hc hN hi hj hij hx hy (pa_cons ha (pa_cons hb pa_nil h2) h1) hw hs) fun D' σ H ⟨H0, r, k⟩ =>
  ⟨⟨H0, r⟩, fun q1 vs1 ds1 H1 n1 x1 y1 t1 e1 => ⟨⟨H0, r.mono x1⟩, fun q vs ds1 H2 n x2 y2 t2 e2 => ⟨.ref q1, .ref q, rfl, by subst e1 e2; exact k.nx _ _ _ ((r.setF x1 i n1 y1 t1).setF x2 j n y2 t2) h⟩⟩⟩
/-- x, y = a new list, data -/
theorem sd_parFD {pt2 : Pos} (hc : X.calm = true) (hN : X.N.Nodup) (hi : X.N[i]? = some x) (hj : X.N[j]? = some y) (hij : i ≠ j) (hx : X.env.scope.names.lookup x = some .local) (hy : X.env.scope.names.lookup y = some .local) (ha : DF X c a δ ds) (hb : DE X c b δ d) (h : D.nx ((δ.set i (.own ds)).set j (.dat d)))
    (hw : swappedStores [.Tuple [.Name x px, .Name y py] kt pt] (.Tuple [a, b] k2 pt2) X.env = pure (some [x, y])) (hs : swapsWithSole [.Tuple [.Name x px, .Name y py] kt pt] (.Tuple [a, b] k2 pt2) pos.line X.env = pure false := by rfl)
    (h1 : starEach (a :: [b]) X.env = (false, eval a X.env) :: starEach [b] X.env := by rfl) (h2 : starEach (b :: []) X.env = (false, eval b X.env) :: starEach [] X.env := by rfl) :
    SD X c (.Assign [.Tuple [.Name x px, .Name y py] kt pt] (.Tuple [a, b] k2 pt2) pos) δ D := ps_imp (ps_par hc hN hi hj hij hx hy (pa_cons ha (pa_cons hb pa_nil h2) h1) hw hs) fun D' σ H ⟨H0, r, k⟩ =>
  ⟨⟨H0, r⟩, fun q1 vs1 ds1 H1 n1 x1 y1 t1 e1 => ⟨⟨H0, r.mono x1⟩, fun v d1 H2 x2 t2 e2 => ⟨.ref q1, v, rfl, by subst e1 e2; exact k.nx _ _ _ (((r.setF x1 i n1 y1 t1).mono x2).setD j t2) h⟩⟩⟩
/-- return (data, one's own list) -/
theorem sd_retP {k : Nat} (ha : DE X c a δ d) (hN : X.N[i]? = some x) (hv : Vis X.env.scope x) (hδ : δ[i]? = some (.own ds)) (h : D.rt (.pr d ds)) (hd : (x == ("__debug__" : Str)) = false := by decide) (hcd : (x == ("__classdict__" : Str)) = false := by decide)
    (h1 : starEach (a :: [.Name x p]) X.env = (false, eval a X.env) :: starEach [.Name x p] X.env := by rfl) (h2 : starEach (Expr.Name x p :: []) X.env = (false, eval (.Name x p) X.env) :: starEach [] X.env := by rfl) :
    SD X c (.Return (some (.Tuple [a, .Name x p] k p2)) pos) δ D :=
  ps_imp (ps_ret (pe_tup (pa_cons ha (pa_cons (pe_var hN hv hd hcd) pa_nil h2) h1))) fun D' σ H ⟨H0, r, kk⟩ =>
    ⟨⟨H0, r⟩, fun v d1 H1 x1 t1 e1 => by
      subst e1
      obtain ⟨q, vs, g1, g2, g3, g4⟩ := (r.mono x1).at_ i _ hδ
      refine ⟨_, g1, by show 2 ≤ sizeLine; decide, fun l hl => ?_⟩
      have nl := ExC.new (c := c) (o := .tup [v, V.ref q]) hl
      have hq : q ≠ l := fun e => by subst e; rw [hl] at g3; cases g3
      refine kk.rt _ _ (.pr d ds) ((r.mono x1).base.trans nl) ⟨l, v, q, vs, rfl, upd_same, Tp.te nl.te _ _ t1, g2, by rw [upd_ne hq]; exact g3, TpAll.te nl.te _ _ g4⟩ h⟩
/-- the second of what such a def gives -/
theorem df_snd {ps : List Str} {k n kc : Nat} {S : List PyData → Rt → Prop} {pc pos2 : Pos} (F : Df X.prog X.w X.K X.mg X.base x k ps (spR X.K n S)) (hr : Room k X.A) (hg : Gl X x) (ha : DA X c (e :: es) δ ds) (hn : ds.length = n) {rs : List PyData} (h : S ds (.pr d rs))
    (hdb : (x == ("__debug__" : Str)) = false := by decide) (he : starEach (e :: es) X.env = (false, eval e X.env) :: starEach es X.env := by rfl) (hpl : (backTo pos (starEach es X.env)).any (·.1) = false := by rfl) :
    DF X c (.Subscript (.Call (.Name x p) (e :: es) [] pos) (.Constant (.int 1) kc pc) pos2) δ rs := by
  obtain ⟨f, fd, F, hm, hk, hb⟩ := F.ex
  refine pe_imp (pe_ix ix_tup (pe_call F hr hg hm hk hb .nil pass0 ha hdb he hpl) (de_int (c := c) (δ := δ)) (by exact fun _ _ => rfl)) fun σ H Q q => ?_
  obtain ⟨⟨H0, rp⟩, q⟩ := q
  refine ⟨⟨H0, rp⟩, fun vs ds' H1 x1 t1 r1 => ?_⟩
  subst r1
  rw [List.append_nil]
  refine ⟨by rw [t1.len]; exact hn, ds, _, t1, h, fun v H' x' ok => ?_⟩
  obtain ⟨q1, u, p1, us, rfl, h1, h2, h3, h4, h5⟩ := ok
  refine ⟨⟨H0, (rp.mono x1).mono (ExC.none x')⟩, fun v2 d2 H2 x2 t2 e2 => ?_⟩
  subst e2
  cases t2
  have nc := ((rp.mono x1).fresh h3).2
  have hh : H p1 = none := x1.back nc h3
  have x12 : ExC c H1 H2 := (ExC.none x').trans x2
  exact ⟨_, _, 1, .ref p1, rfl, rfl, x2.te.t (SqT.of h1), rfl, q p1 us rs H2 hh (x1.trans x12) (x2.ex _ _ nc h4) (TpAll.te x2.te _ _ h5) rfl⟩
end
end WL

set_option maxRecDepth 100000
set_option maxHeartbeats 4000000
namespace WS
theorem ins_first : ∀ {R : List Int} {x b : Int}, (ins R x).2 = some b → ∃ p, R[p]? = some b ∧ (∀ z ∈ R.take p, z ≤ x) ∧ x < b
  | [], x, b, h => by cases h
  | r :: rs, x, b, h => by
    by_cases hlt : x < r
    · rw [ins_lt hlt] at h
      cases h
      exact ⟨0, rfl, (fun z hz => nomatch hz), hlt⟩
    · rw [ins_ge (by omega)] at h
      obtain ⟨p, h1, h2, h3⟩ := ins_first (R := rs) h
      refine ⟨p + 1, h1, fun z hz => ?_, h3⟩
      rcases List.mem_cons.mp hz with rfl | hz
      · omega
      · exact h2 z hz
theorem ins_last {R : List Int} {x l : Int} (hs : Sorted (R ++ [l])) : (ins (R ++ [l]) x).2 = none ↔ l ≤ x := by
  constructor
  · intro h
    exact (ins_none h).2 l (List.mem_append_right _ List.mem_cons_self)
  · intro h
    rw [ins_all_le]
    intro y hy
    rcases List.mem_append.mp hy with hy | hy
    · exact Int.le_trans ((List.pairwise_append.mp hs).2.2 y hy l List.mem_cons_self) h
    · have : y = l := by simpa using hy
      omega
theorem downFrom_len (lo : Nat) : ∀ n : Nat, (downFrom lo n).length = n
  | 0 => rfl
  | n + 1 => congrArg (· + 1) (downFrom_len lo n)
theorem downFrom_split (lo : Nat) : ∀ (m n : Nat), downFrom lo (n + m) = downFrom (lo + n) m ++ downFrom lo n
  | 0, n => rfl
  | m + 1, n => by
    show (lo + (n + m)) :: downFrom lo (n + m) = (lo + n + m) :: downFrom (lo + n) m ++ downFrom lo n
    rw [downFrom_split lo m n, Nat.add_assoc]
    rfl
theorem downFrom_range (lo : Nat) : ∀ n : Nat, downFrom lo n = (List.range n).map fun i => lo + n - 1 - i
  | 0 => rfl
  | n + 1 => by
    rw [List.range_succ_eq_map, List.map_cons, List.map_map]
    show (lo + n) :: downFrom lo n = (lo + (n + 1) - 1 - 0) :: _
    rw [downFrom_range lo n]
    congr 1
    apply List.map_congr_left
    intro i _
    show lo + n - 1 - i = lo + (n + 1) - 1 - (i + 1)
    omega
theorem stepsOf_len : ∀ (T : List (List Int)) (x : Int), (stepsOf T x).length ≤ (wordOf T).length
  | [], x => Nat.le_refl _
  | R :: T, x => by
    show (match (ins R x).2 with | none => [] | some b => downFrom (wordOf T).length (R.length - 1) ++ stepsOf T b).length ≤ (wordOf T ++ R).length
    rw [List.length_append]
    cases (ins R x).2 with
    | none => exact Nat.zero_le _
    | some b =>
      have := stepsOf_len T b
      show (downFrom (wordOf T).length (R.length - 1) ++ stepsOf T b).length ≤ _
      rw [List.length_append, downFrom_len]
      omega
theorem stepsOf_some {R : List Int} {T : List (List Int)} {x b : Int} (h : (ins R x).2 = some b) : stepsOf (R :: T) x = downFrom (wordOf T).length (R.length - 1) ++ stepsOf T b := by
  show (match (ins R x).2 with | none => [] | some b => downFrom (wordOf T).length (R.length - 1) ++ stepsOf T b) = _
  rw [h]
theorem stepsOf_none {R : List Int} {T : List (List Int)} {x : Int} (h : (ins R x).2 = none) : stepsOf (R :: T) x = [] := by
  show (match (ins R x).2 with | none => [] | some b => downFrom (wordOf T).length (R.length - 1) ++ stepsOf T b) = _
  rw [h]
theorem flat_len {f : Nat → List Nat} {m : Nat} : ∀ (l : List Nat), (∀ i ∈ l, (f i).length ≤ m) → (l.flatMap f).length ≤ l.length * m
  | [], _ => by simp
  | i :: l, h => by
    rw [List.flatMap_cons, List.length_append, List.length_cons]
    have h1 := h i List.mem_cons_self
    have h2 := flat_len l fun j hj => h j (List.mem_cons_of_mem _ hj)
    rw [Nat.add_mul]
    omega
end WS
namespace WL
open PySem PySem.Spec PyProof.Rows L2
def dN (L : List Nat) : List PyData := L.map fun (k : Nat) => .int (k : Int)
theorem dN_len (L : List Nat) : (dN L).length = L.length := List.length_map ..
theorem rangeB_dN {lo hi : Int} {a n : Nat} (h1 : lo = (a : Int) + n - 1) (h2 : hi = (a : Int) - 1) : rangeB lo (lo - hi).toNat = dN (WS.downFrom a n) := by
  have : (lo - hi).toNat = n := by omega
  rw [this, WS.downFrom_range]
  unfold rangeB dN
  rw [List.map_map]
  apply List.map_congr_left
  intro i hi
  have := List.mem_range.mp hi
  show PyData.int (lo - i) = .int ((a + n - 1 - i : Nat) : Int)
  congr 1
  omega
theorem dN_got {L : List Nat} {i : Nat} {d : PyData} (h : (dN L)[i]? = some d) : ∃ k, L[i]? = some k ∧ d = .int (k : Int) := by
  unfold dN at h
  rw [List.getElem?_map] at h
  cases e : L[i]? with
  | none => rw [e] at h; cases h
  | some x => rw [e] at h; cases h; exact ⟨x, rfl, rfl⟩
section
variable {P : Program} {w : World} {K : PySem.W.Frag} {mg : Str → Option Value} {base : Heap}
abbrev s_put_steps : Stmt := topS 38
theorem c_put_steps : FnScope ["rows", "letter", "word", "found", "begin", "row", "at", "place", "other"] ["rows", "letter"] (defScope s_put_steps) := ⟨rfl, rfl, rfl, by decide +kernel, rfl, by decide +kernel, by decide +kernel⟩
def S_psteps (ds : List PyData) (r : Rt) : Prop := ∃ (T : List (List Int)) (x : Int), WS.Small 50 T ∧ (∀ R ∈ T, WS.Sorted R) ∧ (WS.wordOf T).length ≤ 50 ∧ ds = [dR T, .int x] ∧ r = .pr (dW (WS.wordOf (WS.put T x))) (dN (WS.stepsOf T x))
/-- the state of put_steps: rows, letter, word, moves, begin -/
def PsI (T : List (List Int)) (fin : List Int) (all : List Nat) (y : Int) (begin : Int) (row : Slot) (pl : Slot) (rest : List Nat) (δ : List Slot) : Prop :=
  ∃ cur fnd s6 s8, δ = [.dat (dR T), .dat (.int y), .dat (dW cur), .own (dN fnd), .dat (.int begin), row, s6, pl, s8] ∧ WS.path cur rest = some fin ∧ fnd ++ rest = all
theorem f_put_steps (B : Bi mg) (D1 : Df P w K mg base "word_of_rows" 1 ["rows"] (spR K 1 S_wor)) (D2 : Df P w K mg base "word_after" 2 ["word", "place"] (spR K 2 S_after)) (T : Tx K mg "put_steps" s_put_steps) : Df P w K mg base "put_steps" 3 ["rows", "letter"] (spR K 2 S_psteps) := by
  refine dfR T c_put_steps rfl (fun _ _ _ _ _ _ us hl => match us, hl with | [_, _], _ => rfl) fun f cdv A outer s H E ds r hr hS => ?_
  obtain ⟨T, x, hl, hsort, hlw, rfl, rfl⟩ := hS
  have hl1 := hl.1
  have pfin := WS.put_steps (x := x) hsort
  have flen : (WS.wordOf (WS.put T x)).length = (WS.wordOf T).length + 1 := by
    rw [(WS.path_perm pfin).length_eq, List.length_append]
    rfl
  have alen := WS.stepsOf_len T x
  generalize hfin : WS.wordOf (WS.put T x) = fin at *
  generalize hall : WS.stepsOf T x = all at *
  have clen : ∀ {cur rest}, WS.path cur rest = some fin → cur.length ≤ 100 := fun h => by
    have := (WS.path_perm h).length_eq
    omega
  have fln : ∀ {fnd rest : List Nat}, fnd ++ rest = all → fnd.length ≤ 100 := fun h => by
    have := congrArg List.length h
    rw [List.length_append] at this
    omega
  refine sds_cons (sd_parDF (i := 2) (j := 3) rfl c_put_steps.nd rfl rfl (by decide) rfl rfl (de_tup (da_star (de_cd D1 (hr.mono (by omega)) (by rfl) (da_cons (de_var 0) da_nil) rfl ⟨T, by omega, by omega, rfl, rfl⟩) (da_cons (de_var 1) da_nil)) ?_) (df_lst da_nil (Nat.zero_le _)) ?_ (by with_unfolding_all rfl))
  · simp; omega
  refine sds_cons (sd_set c_put_steps.nd (i := 4) rfl (by exact Or.inl rfl) (de_sub (de_len (by rfl) B.len b_len (da_cons (de_var 2) da_nil)) de_int) fun d hd => ?_)
  subst hd
  refine sds_cons (sd_for (A := gN 5) (js := [5]) (fun ds i δ => ∃ y row pl, PsI T fin all y ((WS.wordOf (T.drop i)).length : Int) row pl (WS.stepsOf (T.drop i) y) δ) PassesOwn.never rfl (di_tup (de_var 0)) (eg_name c_put_steps.nd rfl (by exact Or.inl rfl) (by decide)) (fun ds hd => ⟨x, .un, .un, WS.wordOf T ++ [x], [], .un, .un, ?_, by rw [List.drop_zero, hall]; exact pfin, hall⟩) (fun ds i d δ1 hd hi h1 => ?_) fun ds δ1 hd h1 => ?_)
  · have e1 : (((WS.wordOf T).map PyData.int ++ [PyData.int x]).length : Int) - 1 = ((WS.wordOf T).length : Int) := by simp
    show [_, _, Slot.dat (.tuple ((WS.wordOf T).map PyData.int ++ [PyData.int x])), _, Slot.dat (.int ((((WS.wordOf T).map PyData.int ++ [PyData.int x]).length : Int) - 1)), _, _, _, _] = [_, _, Slot.dat (.tuple ((WS.wordOf T ++ [x]).map PyData.int)), _, _, _, _, _, _]
    rw [e1, List.map_append]
    rfl
  · subst hd
    obtain ⟨y, row, pl, cur, fnd, s6, s8, rfl, hp, hf⟩ := h1
    obtain ⟨R, hR, rfl⟩ := dR_got hi
    obtain ⟨hiT, eR⟩ := List.getElem?_eq_some_iff.mp hR
    have hRm := List.mem_of_getElem? hR
    have hRl := hl.2 R hRm
    have hRs := hsort R hRm
    have hd : T.drop i = R :: T.drop (i + 1) := by rw [← eR]; exact List.drop_eq_getElem_cons hiT
    have hw : (WS.wordOf (T.drop i)).length = (WS.wordOf (T.drop (i + 1))).length + R.length := by
      rw [hd]
      exact List.length_append
    generalize hb : (WS.wordOf (T.drop (i + 1))).length = bg at *
    refine ⟨_, rfl, sds_cons (sd_aug c_put_steps.nd (i := 4) rfl (by exact Or.inl rfl) rfl (de_len (by rfl) B.len b_len (da_cons (de_var 5) da_nil)) ip_sub ?_)⟩
    have e1 : ((WS.wordOf (T.drop i)).length : Int) - ((R.map PyData.int).length : Int) = (bg : Int) := by
      rw [hw, dW_len]
      omega
    show SDs _ _ _ [_, _, _, _, Slot.dat (.int (((WS.wordOf (T.drop i)).length : Int) - ((R.map PyData.int).length : Int))), _, _, _, _] _
    rw [e1]
    obtain ⟨R0, l, rfl⟩ : ∃ R0 l, R = R0 ++ [l] := ⟨R.dropLast, R.getLast (fun e => by rw [e] at hRl; exact absurd hRl.2 (by decide)), (List.dropLast_concat_getLast _).symm⟩
    have hlast : atI ((R0 ++ [l]).map PyData.int) (-1) = some (.int l) := by rw [List.map_append]; exact atI_last _ _
    refine sds_cons (sd_ifD (dt_cmp (dc_le (de_ix (de_var 5) (de_neg de_int) hlast) (de_var 1))) (fun hk => ?_) fun hk => ?_)
    · have hn := (WS.ins_last (x := y) hRs).mpr (of_decide_eq_true hk)
      rw [hd, WS.stepsOf_none hn] at hp hf
      have e2 : cur = fin := Option.some.inj hp
      rw [List.append_nil] at hf
      subst e2 hf
      exact sds_one (sd_retP (i := 3) (de_var 2) rfl (by exact Or.inl rfl) rfl rfl)
    · have hn : ¬ (WS.ins (R0 ++ [l]) y).2 = none := fun h => (of_decide_eq_false hk) ((WS.ins_last hRs).mp h)
      obtain ⟨b, hb2⟩ : ∃ b, (WS.ins (R0 ++ [l]) y).2 = some b := by
        cases e : (WS.ins (R0 ++ [l]) y).2 with
        | none => exact absurd e hn
        | some b => exact ⟨b, rfl⟩
      obtain ⟨pc, q1, q2, q3⟩ := WS.ins_first hb2
      rw [hd, WS.stepsOf_some hb2, hb] at hp hf
      generalize hRR : R0 ++ [l] = R at *
      have hpc : pc < R.length := (List.getElem?_eq_some_iff.mp q1).1
      have hsp : WS.downFrom bg (R.length - 1) = WS.downFrom (bg + pc) (R.length - 1 - pc) ++ WS.downFrom bg pc := by
        rw [← WS.downFrom_split]
        congr 1
        omega
      rw [hsp, List.append_assoc] at hp hf
      generalize hrest : WS.stepsOf (T.drop (i + 1)) b = rest at *
      have hbg : bg ≤ 100 := by
        have := clen hp
        have e2 := WS.wordOf_len T
        have e3 : (WS.wordOf (T.drop i)).length ≤ (WS.wordOf T).length := by
          rw [WS.wordOf_len, WS.wordOf_len]
          conv => rhs; rw [← List.take_append_drop i T]
          rw [List.map_append, List.sum_append]
          omega
        omega
      refine sds_nil (sds_cons (sd_set c_put_steps.nd (i := 7) rfl (by exact Or.inl rfl) (de_minR (m := (pc : Int)) (ns := ((enumD (R.map .int)).filter fun d => match d with | .tuple [_, .int o] => decide (y < o) | _ => false).map fun d => match d with | .tuple [.int j, _] => j | _ => 0) rfl (by rfl) B.min b_min
        (ar_one (er_fresh (DF.to (df_lc (A := g2 (gN 6) (gN 8)) (own := [("at", 6), ("other", 8)]) (fun d => match d with | .tuple [_, .int o] => decide (y < o) | _ => false) (fun d => .int (match d with | .tuple [.int j, _] => j | _ => 0)) rfl c_put_steps.nd (di_enumT (by rfl) B.enumerate (de_var 5)) (blkOk_by (by rfl))
          (by rw [enumD_len, dW_len]; omega) (fun s H C cl fp => eg_two rfl (eg_name c_put_steps.nd rfl (by exact Or.inl rfl) (by decide)) (eg_name c_put_steps.nd rfl (by exact Or.inl rfl) (by decide))) (fun d hd => ?_)) (by rw [List.map_map]; rfl)))) ?_ ?_) fun d hd => ?_))
      · obtain ⟨j, hj⟩ := List.getElem?_of_mem hd
        obtain ⟨e, he, rfl⟩ := enumD_got hj
        obtain ⟨o, ho, rfl⟩ := dW_got he
        exact ⟨_, rfl, fun s H C cl fp => pts_oneD (dt_cmp (dc_gt (de_var 8) (de_var 1))), fun _ s H C cl fp => de_var 6⟩
      · refine List.mem_map.mpr ⟨.tuple [.int (pc : Int), .int b], List.mem_filter.mpr ⟨List.mem_of_getElem? (enumD_at (dW_get q1)), decide_eq_true q3⟩, rfl⟩
      · intro z hz
        obtain ⟨d, hd, rfl⟩ := List.mem_map.mp hz
        obtain ⟨hd, hd2⟩ := List.mem_filter.mp hd
        obtain ⟨j, hj⟩ := List.getElem?_of_mem hd
        obtain ⟨e, he, rfl⟩ := enumD_got hj
        obtain ⟨o, ho, rfl⟩ := dW_got he
        have ho2 : y < o := of_decide_eq_true hd2
        show (pc : Int) ≤ (j : Int)
        by_cases hjp : j < pc
        · have : o ∈ R.take pc := List.mem_of_getElem? (i := j) (by rw [List.getElem?_take, if_pos hjp]; exact ho)
          have := q2 o this
          omega
        · omega
      subst hd
      refine sds_cons (sd_for (A := gN 6) (js := [6]) (fun ds j δ => PsI T fin all y (bg : Int) (.dat (dW R)) (.dat (.int (pc : Int))) ((WS.downFrom (bg + pc) (R.length - 1 - pc)).drop j ++ (WS.downFrom bg pc ++ rest)) δ) PassesOwn.never rfl (di_rangeB (by rfl) B.range (da_cons (de_sub (de_add (de_var 4) (de_len (by rfl) B.len b_len (da_cons (de_var 5) da_nil))) de_int) (da_cons (de_sub (de_add (de_var 4) (de_var 7)) de_int) (da_cons (de_neg de_int) da_nil))) (by rw [dW_len]; omega)) (eg_name c_put_steps.nd rfl (by exact Or.inl rfl) (by decide)) (fun ds hd => ⟨cur, fnd, _, _, rfl, hp, hf⟩) (fun ds j d δ1 hd hi h1 => ?_) fun ds δ1 hd h1 => ?_)
      · subst hd
        rw [dW_len] at hi
        rw [rangeB_dN (a := bg + pc) (n := R.length - 1 - pc) (by omega) (by omega)] at hi
        obtain ⟨k, hk2, rfl⟩ := dN_got hi
        obtain ⟨hjl, ek⟩ := List.getElem?_eq_some_iff.mp hk2
        obtain ⟨cur, fnd, t6, t8, rfl, hp, hf⟩ := h1
        have hdj : (WS.downFrom (bg + pc) (R.length - 1 - pc)).drop j = k :: (WS.downFrom (bg + pc) (R.length - 1 - pc)).drop (j + 1) := by rw [← ek]; exact List.drop_eq_getElem_cons hjl
        rw [hdj] at hp hf
        have hcl := clen hp
        have hfl := fln hf
        obtain ⟨v, hv1, hv2⟩ := WS.path_uncons hp
        refine ⟨_, rfl, sds_cons (sd_set c_put_steps.nd (i := 2) rfl (by exact Or.inl rfl) (de_cd D2 (hr.mono (by omega)) (by rfl) (da_cons (de_var 2) (da_cons (de_var 6) da_nil)) rfl ⟨cur, k, by omega, rfl, by rw [hv1, dWo]⟩) fun d hd => ?_)⟩
        subst hd
        refine sds_one (sd_append (i := 3) (pe_var rfl (by exact Or.inl rfl)) rfl (by rw [dN_len]; omega) (da_cons (de_var 6) da_nil) fun es hes => ⟨_, hes.symm, v, fnd ++ [k], .dat (.int (k : Int)), t8, ?_, hv2, by rw [List.append_assoc]; exact hf⟩)
        show [_, _, _, Slot.own (dN fnd ++ [.int (k : Int)]), _, _, _, _, _] = [_, _, _, Slot.own (dN (fnd ++ [k])), _, _, _, _, _]
        unfold dN
        rw [List.map_append]
        rfl
      subst hd
      rw [dW_len] at h1
      rw [rangeB_dN (a := bg + pc) (n := R.length - 1 - pc) (by omega) (by omega), dN_len, List.drop_of_length_le (Nat.le_refl _), List.nil_append] at h1
      obtain ⟨cur, fnd, u6, u8, rfl, hp, hf⟩ := h1
      refine sds_cons (sd_for (A := gN 6) (js := [6]) (fun ds j δ => PsI T fin all y (bg : Int) (.dat (dW R)) (.dat (.int (pc : Int))) ((WS.downFrom bg pc).drop j ++ (rest)) δ) PassesOwn.never rfl (di_rangeB (by rfl) B.range (da_cons (de_sub (de_add (de_var 4) (de_var 7)) de_int) (da_cons (de_sub (de_var 4) de_int) (da_cons (de_neg de_int) da_nil))) (by omega)) (eg_name c_put_steps.nd rfl (by exact Or.inl rfl) (by decide)) (fun ds hd => ⟨cur, fnd, _, _, rfl, hp, hf⟩) (fun ds j d δ1 hd hi h1 => ?_) fun ds δ1 hd h1 => ?_)
      · subst hd
        skip
        rw [rangeB_dN (a := bg) (n := pc) (by omega) (by omega)] at hi
        obtain ⟨k, hk2, rfl⟩ := dN_got hi
        obtain ⟨hjl, ek⟩ := List.getElem?_eq_some_iff.mp hk2
        obtain ⟨cur, fnd, t6, t8, rfl, hp, hf⟩ := h1
        have hdj : (WS.downFrom bg pc).drop j = k :: (WS.downFrom bg pc).drop (j + 1) := by rw [← ek]; exact List.drop_eq_getElem_cons hjl
        rw [hdj] at hp hf
        have hcl := clen hp
        have hfl := fln hf
        obtain ⟨v, hv1, hv2⟩ := WS.path_uncons hp
        refine ⟨_, rfl, sds_cons (sd_set c_put_steps.nd (i := 2) rfl (by exact Or.inl rfl) (de_cd D2 (hr.mono (by omega)) (by rfl) (da_cons (de_var 2) (da_cons (de_var 6) da_nil)) rfl ⟨cur, k, by omega, rfl, by rw [hv1, dWo]⟩) fun d hd => ?_)⟩
        subst hd
        refine sds_one (sd_append (i := 3) (pe_var rfl (by exact Or.inl rfl)) rfl (by rw [dN_len]; omega) (da_cons (de_var 6) da_nil) fun es hes => ⟨_, hes.symm, v, fnd ++ [k], .dat (.int (k : Int)), t8, ?_, hv2, by rw [List.append_assoc]; exact hf⟩)
        show [_, _, _, Slot.own (dN fnd ++ [.int (k : Int)]), _, _, _, _, _] = [_, _, _, Slot.own (dN (fnd ++ [k])), _, _, _, _, _]
        unfold dN
        rw [List.map_append]
        rfl
      subst hd
      skip
      rw [rangeB_dN (a := bg) (n := pc) (by omega) (by omega), dN_len, List.drop_of_length_le (Nat.le_refl _), List.nil_append] at h1
      obtain ⟨cur, fnd, u6, u8, rfl, hp, hf⟩ := h1
      refine sds_one (sd_set c_put_steps.nd (i := 1) rfl (by exact Or.inr rfl) (de_ix (de_var 5) (de_var 7) (atI_W q1)) fun d hd => ?_)
      subst hd
      exact ⟨b, .dat (dW R), .dat (.int (pc : Int)), cur, fnd, _, _, rfl, hrest.symm ▸ hp, hrest.symm ▸ hf⟩
  · subst hd
    obtain ⟨y, row, pl, cur, fnd, s6, s8, rfl, hp, hf⟩ := h1
    rw [dR_len, List.drop_of_length_le (Nat.le_refl _)] at hp hf
    have e2 : cur = fin := Option.some.inj hp
    have hf : fnd ++ [] = all := hf
    rw [List.append_nil] at hf
    subst e2 hf
    exact sds_one (sd_retP (i := 3) (de_var 2) rfl (by exact Or.inl rfl) rfl rfl)

abbrev s_steps_down : Stmt := topS 39
theorem c_steps_down : FnScope ["word", "found", "count"] ["word"] (defScope s_steps_down) := ⟨rfl, rfl, rfl, by decide +kernel, rfl, by decide +kernel, by decide +kernel⟩
def S_sdown (ds : List PyData) (r : Rt) : Prop := ∃ w : List Int, w.length ≤ 20 ∧ ds = [dW w] ∧ r = .lst (dN (WS.stepsDown w))
theorem dN_app (a b : List Nat) : dN (a ++ b) = dN a ++ dN b := List.map_append
theorem sdown_bound {w : List Int} (i : Nat) (hl : w.length ≤ 20) (hi : i ≤ 20) : ((List.range i).flatMap fun c => WS.stepsOf (WS.rowsOf (w.take c)) (w.getD c 0)).length ≤ 400 := by
  have := WS.flat_len (m := 20) (f := fun c => WS.stepsOf (WS.rowsOf (w.take c)) (w.getD c 0)) (List.range i) fun c _ => by
    have h1 := WS.stepsOf_len (WS.rowsOf (w.take c)) (w.getD c 0)
    rw [WS.wordOf_rowsOf_len, List.length_take] at h1
    omega
  rw [List.length_range] at this
  exact Nat.le_trans this (by have := Nat.mul_le_mul_right 20 hi; omega)
theorem f_steps_down (B : Bi mg) (D1 : Df P w K mg base "rows_of_word" 3 ["word"] (spR K 1 S_rows)) (D2 : Df P w K mg base "put_steps" 3 ["rows", "letter"] (spR K 2 S_psteps)) (T : Tx K mg "steps_down" s_steps_down) : Df P w K mg base "steps_down" 4 ["word"] (spR K 1 S_sdown) := by
  refine dfR T c_steps_down rfl (fun _ _ _ _ _ _ us hl => match us, hl with | [_], _ => rfl) fun f cdv A outer s H E ds r hr hS => ?_
  obtain ⟨w, hl, rfl, rfl⟩ := hS
  refine sds_cons (sd_setF c_steps_down.nd (i := 1) rfl (by exact Or.inl rfl) (df_lst da_nil (Nat.zero_le _)) fun d hd => ?_)
  subst hd
  refine sds_cons (sd_for (A := gN 2) (js := [2]) (fun ds i δ => ∃ s2, δ = [.dat (dW w), .own (dN ((List.range i).flatMap fun c => WS.stepsOf (WS.rowsOf (w.take c)) (w.getD c 0))), s2]) PassesOwn.never rfl (di_range1 (by rfl) B.range (da_cons (de_len (by rfl) B.len b_len (da_cons (de_var 0) da_nil)) da_nil) (by rw [dW_len]; omega)) (eg_name c_steps_down.nd rfl (by exact Or.inl rfl) (by decide)) (fun ds hd => ⟨_, rfl⟩) (fun ds i d δ1 hd hi h1 => ?_) fun ds δ1 hd h1 => ?_)
  · subst hd
    obtain ⟨s2, rfl⟩ := h1
    rw [dW_len, Int.toNat_natCast] at hi
    have hiw : i < w.length := by
      have := (List.getElem?_eq_some_iff.mp hi).1
      rw [rangeD_len] at this
      exact this
    rw [rangeD_at hiw] at hi
    have hd : d = .int (i : Int) := by rw [← Option.some.inj hi, Int.zero_add]
    subst hd
    have sm := WS.rowsOf_small (w.take i)
    have wl := WS.wordOf_rowsOf_len (w.take i)
    rw [List.length_take] at sm wl
    have hx : w[i]? = some (w.getD i 0) := by rw [List.getD_eq_getElem?_getD, List.getElem?_eq_getElem hiw]; rfl
    have b1 := sdown_bound i hl (by omega)
    have b2 := sdown_bound (i + 1) hl (by omega)
    rw [List.range_succ, List.flatMap_append, List.length_append, List.flatMap_cons, List.flatMap_nil, List.append_nil] at b2
    refine ⟨_, rfl, sds_one (sd_extend c_steps_down.nd (i := 1) rfl (by exact Or.inl rfl) rfl (df_snd D2 (hr.mono (by omega)) (by rfl) (da_cons (de_cd D1 (hr.mono (by omega)) (by rfl) (da_cons (de_cut (de_var 0) dp_none (dp_some (de_var 2))) da_nil) rfl ⟨w.take i, by rw [List.length_take]; omega, by rw [cut_pre _ (by rw [dW_len]; omega), dW_take]; rfl, rfl⟩)
      (da_cons (de_ix (de_var 0) (de_var 2) (atI_W hx)) da_nil)) rfl ⟨WS.rowsOf (w.take i), w.getD i 0, ⟨by have := sm.1; omega, fun R hR => by have := sm.2 R hR; omega⟩, WS.rowsOf_sorted _, by omega, rfl, rfl⟩) fun es hes => ⟨?_, .dat (.int (i : Int)), ?_⟩)⟩
    · subst hes
      rw [dN_len, dN_len]
      omega
    · subst hes
      rw [← dN_app]
      rw [List.range_succ, List.flatMap_append, List.flatMap_cons, List.flatMap_nil, List.append_nil]
      rfl
  · subst hd
    obtain ⟨s2, rfl⟩ := h1
    rw [rangeD_len, dW_len, Int.toNat_natCast]
    exact sds_one (sd_retO (i := 1) rfl (by exact Or.inl rfl) rfl rfl)

abbrev s_steps_between : Stmt := topS 40
theorem c_steps_between : FnScope ["word", "other"] ["word", "other"] (defScope s_steps_between) := ⟨rfl, rfl, rfl, by decide +kernel, rfl, by decide +kernel, by decide +kernel⟩
def S_between (ds : List PyData) (r : Rt) : Prop := ∃ w v : List Int, Wd w ∧ Wd v ∧ ds = [dW w, dW v] ∧ r = .dat (.tuple (dN (WS.between w v)))
theorem f_steps_between (B : Bi mg) (D1 : Df P w K mg base "steps_down" 4 ["word"] (spR K 1 S_sdown)) (T : Tx K mg "steps_between" s_steps_between) : Df P w K mg base "steps_between" 5 ["word", "other"] (spR K 2 S_between) := by
  refine dfR T c_steps_between rfl (fun _ _ _ _ _ _ us hl => match us, hl with | [_, _], _ => rfl) fun f cdv A outer s H E ds r hr hS => ?_
  obtain ⟨w, v, hw, hv, rfl, rfl⟩ := hS
  have l1 := sdown_bound (w := w) w.length (by have := hw.1; omega) (by have := hw.1; omega)
  have l2 := sdown_bound (w := v) v.length (by have := hv.1; omega) (by have := hv.1; omega)
  refine sds_one (sd_ret (ed_tupR (by rfl) B.tuple b_tuple (ar_one (er_fresh (ef_cat (df_cd D1 (hr.mono (by omega)) (by rfl) (da_cons (de_var 0) da_nil) rfl ⟨w, by have := hw.1; omega, rfl, rfl⟩) (ef_revR (er_fresh (df_cd D1 (hr.mono (by omega)) (by rfl) (da_cons (de_var 1) da_nil) rfl ⟨v, by have := hv.1; omega, rfl, rfl⟩))) ?_)))) fun d hd => ?_)
  · intro ds es h1 h2
    obtain ⟨ds', h2, rfl⟩ := h2
    subst h1 h2
    rw [List.length_reverse, dN_len, dN_len]
    exact Nat.le_trans (Nat.add_le_add l1 l2) (by decide)
  · obtain ⟨ds, ⟨d1, e1, h1, ⟨d2, h2, h3⟩, rfl⟩, rfl⟩ := hd
    subst h1 h2 h3
    show Rt.dat _ = Rt.dat _
    unfold WS.between
    rw [dN_app]
    unfold dN
    rw [List.map_reverse]

abbrev s_chain : Stmt := topS 41
theorem c_chain : FnScope ["word", "other"] ["word", "other"] (defScope s_chain) := ⟨rfl, rfl, rfl, by decide +kernel, rfl, by decide +kernel, by decide +kernel⟩
def dCh (w v : List Int) : PyData := if WS.rowsOf w = WS.rowsOf v then .tuple (dN (WS.between w v)) else .none
def S_chain (ds : List PyData) (r : Rt) : Prop := ∃ w v : List Int, Wd w ∧ Wd v ∧ ds = [dW w, dW v] ∧ r = .dat (dCh w v)
theorem f_chain (D1 : Df P w K mg base "check_two" 6 ["word", "other"] (spR K 2 S_two)) (D2 : Df P w K mg base "are_alike" 4 ["word", "other"] (spR K 2 S_alike)) (D3 : Df P w K mg base "steps_between" 5 ["word", "other"] (spR K 2 S_between)) (T : Tx K mg "chain" s_chain) : Df P w K mg base "chain" 7 ["word", "other"] (spR K 2 S_chain) := by
  refine dfR T c_chain rfl (fun _ _ _ _ _ _ us hl => match us, hl with | [_, _], _ => rfl) fun f cdv A outer s H E ds r hr hS => ?_
  obtain ⟨w, v, hw, hv, rfl, rfl⟩ := hS
  refine sds_cons (sd_drop (de_cd D1 (hr.mono (by omega)) (by rfl) (da_cons (de_var 0) (da_cons (de_var 1) da_nil)) rfl ⟨w, v, hw, hv, rfl, rfl⟩) fun d _ => sds_one (sd_ret (R := fun d => d = dCh w v) (ed_if (dt_val (de_cd D2 (hr.mono (by omega)) (by rfl) (da_cons (de_var 0) (da_cons (de_var 1) da_nil)) rfl ⟨w, v, hw, hv, rfl, rfl⟩)) (fun hk => ?_) fun hk => ?_) fun d hd => by subst hd; rfl))
  · have h1 : WS.rowsOf w = WS.rowsOf v := of_decide_eq_true hk
    refine ED.mono (de_cd D3 (hr.mono (by omega)) (by rfl) (da_cons (de_var 0) (da_cons (de_var 1) da_nil)) rfl ⟨w, v, hw, hv, rfl, rfl⟩) fun d hd => ?_
    unfold dCh
    rw [if_pos h1, hd]
  · have h1 : ¬ WS.rowsOf w = WS.rowsOf v := of_decide_eq_false hk
    refine ED.mono de_non fun d hd => ?_
    unfold dCh
    rw [if_neg h1, hd]
end
end WL

set_option maxRecDepth 100000
set_option maxHeartbeats 4000000
namespace WL
open PySem PySem.Spec PyProof.Rows L2
section
variable {P : Program} {w : World} {K : PySem.W.Frag} {mg : Str → Option Value} {base : Heap}
abbrev s_flipped_of : Stmt := topS 11
theorem c_flipped_of : FnScope ["shape", "place", "part"] ["shape"] (defScope s_flipped_of) := ⟨rfl, rfl, rfl, by decide +kernel, rfl, by decide +kernel, by decide +kernel⟩
def S_flip (ds : List PyData) (r : Rt) : Prop := ∃ s : List Int, s.length ≤ 100 ∧ (∀ p ∈ s, 0 ≤ p ∧ p ≤ 1000) ∧ ds = [dW s] ∧ r = .dat (dW (WS.flip s))
theorem flip_len (s : List Int) (k : Int) : (((s.map PyData.int).filter fun d => match d with | .int x => decide (k < x) | _ => false).map id).length = s.countP fun y => decide (k < y) := by
  rw [List.map_id, List.filter_map, List.length_map, List.countP_eq_length_filter]
  rfl
theorem f_flipped_of (B : Bi mg) (T : Tx K mg "flipped_of" s_flipped_of) : Df P w K mg base "flipped_of" 1 ["shape"] (spR K 1 S_flip) := by
  refine dfR T c_flipped_of rfl (fun _ _ _ _ _ _ us hl => match us, hl with | [_], _ => rfl) fun f cdv A outer s H E ds r hr hS => ?_
  obtain ⟨s, hl, hp, rfl, rfl⟩ := hS
  have hh : 0 ≤ s.headD 0 ∧ s.headD 0 ≤ 1000 := by
    cases s with
    | nil => exact ⟨by decide, by decide⟩
    | cons a t => exact hp a List.mem_cons_self
  refine sds_one (sd_retD (DE.to (de_tupR (by rfl) B.tuple b_tuple (ar_one (er_fresh (df_map (A := gN 1) (own := [("place", 1)]) (fun d => match d with | .int k => .int ((s.countP fun y => decide (k < y) : Nat) : Int) | _ => .none) rfl c_flipped_of.nd (di_range1 (n := s.headD 0) (by rfl) B.range (da_cons (ED.mono (R := fun d => d = .int (s.headD 0)) (ed_if (dt_cmp (dc_gt (de_len (by rfl) B.len b_len (da_cons (de_var 0) da_nil)) de_int)) (fun hk => ?_) fun hk => ?_) fun d hd => hd.symm) da_nil) (by omega)) (blkOk_by (by rfl))
    (by rw [rangeD_len]; omega) (fun s H C cl fp => eg_name c_flipped_of.nd rfl (by exact Or.inr rfl) (by decide)) (fun d hd => ?_))))) ?_) rfl)
  · have h1 : (0 : Int) < ((s.map PyData.int).length : Int) := of_decide_eq_true hk
    rw [dW_len] at h1
    cases s with
    | nil => exact absurd h1 (by decide)
    | cons a t => exact ED.mono (de_ix (i := 0) (d := .int a) (de_var 0) de_int (atI_nat (j := 0) rfl)) fun d hd => hd.symm
  · have h1 : ¬ (0 : Int) < ((s.map PyData.int).length : Int) := of_decide_eq_false hk
    rw [dW_len] at h1
    cases s with
    | nil => exact ED.mono de_int fun d hd => hd.symm
    | cons a t => exact absurd (by rw [List.length_cons]; omega) h1
  · obtain ⟨i, hi, rfl⟩ := List.mem_map.mp hd
    rw [Int.zero_add]
    refine ⟨_, rfl, fun s' H C cl fp => DE.to (de_lenR (by rfl) B.len b_len (ar_one (er_fresh (df_lc (A := gN 2) (own := [("part", 2)]) (fun d => match d with | .int x => decide ((i : Int) < x) | _ => false) id rfl c_flipped_of.nd (di_tup (de_var 0)) (blkOk_by (by rfl)) (by rw [dW_len]; omega)
      (fun s H C cl fp => eg_name c_flipped_of.nd rfl (by exact Or.inl rfl) (by decide)) (fun d hd => ?_))))) ?_⟩
    · obtain ⟨x, hx, rfl⟩ := List.mem_map.mp hd
      exact ⟨_, rfl, fun s H C cl fp => pts_oneD (dt_cmp (dc_gt (de_var 2) (de_var 1))), fun _ s H C cl fp => de_var 2⟩
    · rw [flip_len]
  · show PyData.tuple _ = PyData.tuple _
    unfold rangeD WS.flip
    rw [List.map_map, List.map_map]
    congr 1
    apply List.map_congr_left
    intro i _
    show PyData.int ((s.countP fun y => decide (0 + (i : Int) < y) : Nat) : Int) = .int ((s.countP fun y => decide ((i : Int) < y) : Nat) : Int)
    rw [Int.zero_add]

abbrev s_lengths_for : Stmt := topS 43
theorem c_lengths_for : FnScope ["word", "is_rising", "shape"] ["word", "is_rising"] (defScope s_lengths_for) := ⟨rfl, rfl, rfl, by decide +kernel, rfl, by decide +kernel, by decide +kernel⟩
def lens (w : List Int) (b : Bool) : List Int := if b then shp (WS.rowsOf w) else WS.flip (shp (WS.rowsOf w))
def S_lens (ds : List PyData) (r : Rt) : Prop := ∃ (w : List Int) (b : Bool), w.length ≤ 20 ∧ ds = [dW w, .bool b] ∧ r = .dat (dW (lens w b))
theorem f_lengths_for (D1 : Df P w K mg base "rows_of_word" 3 ["word"] (spR K 1 S_rows)) (D2 : Df P w K mg base "shape_of" 1 ["rows"] (spR K 1 S_shape)) (D3 : Df P w K mg base "flipped_of" 1 ["shape"] (spR K 1 S_flip)) (T : Tx K mg "lengths_for" s_lengths_for) : Df P w K mg base "lengths_for" 4 ["word", "is_rising"] (spR K 2 S_lens) := by
  refine dfR T c_lengths_for rfl (fun _ _ _ _ _ _ us hl => match us, hl with | [_, _], _ => rfl) fun f cdv A outer s H E ds r hr hS => ?_
  obtain ⟨w, b, hl, rfl, rfl⟩ := hS
  have sm := WS.rowsOf_small w
  refine sds_cons (sd_set c_lengths_for.nd (i := 2) rfl (by exact Or.inl rfl) (de_cd D2 (hr.mono (by omega)) (by rfl) (da_cons (de_cd D1 (hr.mono (by omega)) (by rfl) (da_cons (de_var 0) da_nil) rfl ⟨w, hl, rfl, rfl⟩) da_nil) rfl ⟨_, ⟨by have := sm.1; omega, fun R hR => by have := sm.2 R hR; omega⟩, rfl, rfl⟩) fun d hd => ?_)
  subst hd
  refine sds_one (sd_ret (R := fun d => d = dW (lens w b)) (ed_if (dt_val (de_var 1)) (fun hk => ?_) fun hk => ?_) fun d hd => by subst hd; rfl)
  · have hk : b = true := hk
    subst hk
    exact ED.mono (de_var 2) fun d hd => hd.symm
  · have hk : b = false := hk
    subst hk
    refine ED.mono (de_cd D3 (hr.mono (by omega)) (by rfl) (da_cons (de_var 2) da_nil) rfl ⟨shp (WS.rowsOf w), ?_, ?_, rfl, rfl⟩) fun d hd => hd.symm
    · unfold shp
      rw [List.length_map]
      have := sm.1
      omega
    · intro p hp
      obtain ⟨R, hR, rfl⟩ := List.mem_map.mp hp
      have := sm.2 R hR
      omega

abbrev s_check_asked : Stmt := topS 44
theorem c_check_asked : FnScope ["word", "many"] ["word", "many"] (defScope s_check_asked) := ⟨rfl, rfl, rfl, by decide +kernel, rfl, by decide +kernel, by decide +kernel⟩
def S_asked (ds : List PyData) (r : Rt) : Prop := ∃ (w : List Int) (m : Int), Wd w ∧ 1 ≤ m ∧ m ≤ 12 ∧ ds = [dW w, .int m] ∧ r = .dat .none
theorem f_check_asked (B : Bi mg) (D0 : DWord P w K mg base) (D1 : Df P w K mg base "is_number" 1 ["value", "low", "high"] (spR K 3 S_within)) (T : Tx K mg "check_asked" s_check_asked) : Df P w K mg base "check_asked" 6 ["word", "many"] (spR K 2 S_asked) := by
  refine dfR T c_check_asked rfl (fun _ _ _ _ _ _ us hl => match us, hl with | [_, _], _ => rfl) fun f cdv A outer s H E ds r hr hS => ?_
  obtain ⟨w, m, hw, m1, m2, rfl, rfl⟩ := hS
  obtain ⟨t, hm⟩ := B.long
  refine sds_cons (sd_drop (de_cd D0 (hr.mono (by omega)) (by rfl) (da_cons (de_var 0) da_nil) rfl ⟨w, hw, rfl, rfl⟩) fun d _ => ?_)
  refine sds_one (sd_ifD (k := false) (dt_not (k := true) (dt_val (DE.to (de_cd D1 (hr.mono (by omega)) (by rfl) (da_cons (de_var 1) (da_cons de_int (da_cons (de_globI (by rfl) hm) da_nil))) rfl ⟨_, _, _, rfl, rfl⟩) ?_))) (fun hk => by cases hk) fun hk => sds_nil rfl)
  rw [decide_eq_true (by omega), decide_eq_true (by omega)]
  rfl
theorem cut_map (l : List Int) (a b : Option Int) : cutG (l.map PyData.int) a b = (cutG l a b).map PyData.int := by
  unfold cutG
  rw [List.length_map, List.map_take, List.map_drop]
def tot (w : List Int) (b : Bool) (m : Int) : Int := (cutG (lens w b) none (some m)).sum
def S_total (b : Bool) (ds : List PyData) (r : Rt) : Prop := ∃ (w : List Int) (m : Int), Wd w ∧ 1 ≤ m ∧ m ≤ 12 ∧ ds = [dW w, .int m] ∧ r = .dat (.int (tot w b m))
abbrev s_rising_total : Stmt := topS 45
theorem c_rising_total : FnScope ["word", "many"] ["word", "many"] (defScope s_rising_total) := ⟨rfl, rfl, rfl, by decide +kernel, rfl, by decide +kernel, by decide +kernel⟩
theorem f_rising_total (B : Bi mg) (D1 : Df P w K mg base "check_asked" 6 ["word", "many"] (spR K 2 S_asked)) (D2 : Df P w K mg base "lengths_for" 4 ["word", "is_rising"] (spR K 2 S_lens)) (T : Tx K mg "rising_total" s_rising_total) : Df P w K mg base "rising_total" 7 ["word", "many"] (spR K 2 (S_total true)) := by
  refine dfR T c_rising_total rfl (fun _ _ _ _ _ _ us hl => match us, hl with | [_, _], _ => rfl) fun f cdv A outer s H E ds r hr hS => ?_
  obtain ⟨w, m, hw, m1, m2, rfl, rfl⟩ := hS
  have hl := hw.1
  refine sds_cons (sd_drop (de_cd D1 (hr.mono (by omega)) (by rfl) (da_cons (de_var 0) (da_cons (de_var 1) da_nil)) rfl ⟨w, m, hw, m1, m2, rfl, rfl⟩) fun d _ => ?_)
  exact sds_one (sd_retD (de_sumT rfl (by rfl) B.sum b_sum (da_cons (DE.to (de_cut (de_cd D2 (hr.mono (by omega)) (by rfl) (da_cons (de_var 0) (da_cons de_bl da_nil)) rfl ⟨w, true, by omega, rfl, rfl⟩) dp_none (dp_some (de_var 1))) (by rw [cut_map])) da_nil)) rfl)
abbrev s_falling_total : Stmt := topS 46
theorem c_falling_total : FnScope ["word", "many"] ["word", "many"] (defScope s_falling_total) := ⟨rfl, rfl, rfl, by decide +kernel, rfl, by decide +kernel, by decide +kernel⟩
theorem f_falling_total (B : Bi mg) (D1 : Df P w K mg base "check_asked" 6 ["word", "many"] (spR K 2 S_asked)) (D2 : Df P w K mg base "lengths_for" 4 ["word", "is_rising"] (spR K 2 S_lens)) (T : Tx K mg "falling_total" s_falling_total) : Df P w K mg base "falling_total" 7 ["word", "many"] (spR K 2 (S_total false)) := by
  refine dfR T c_falling_total rfl (fun _ _ _ _ _ _ us hl => match us, hl with | [_, _], _ => rfl) fun f cdv A outer s H E ds r hr hS => ?_
  obtain ⟨w, m, hw, m1, m2, rfl, rfl⟩ := hS
  have hl := hw.1
  refine sds_cons (sd_drop (de_cd D1 (hr.mono (by omega)) (by rfl) (da_cons (de_var 0) (da_cons (de_var 1) da_nil)) rfl ⟨w, m, hw, m1, m2, rfl, rfl⟩) fun d _ => ?_)
  exact sds_one (sd_retD (de_sumT rfl (by rfl) B.sum b_sum (da_cons (DE.to (de_cut (de_cd D2 (hr.mono (by omega)) (by rfl) (da_cons (de_var 0) (da_cons de_bl da_nil)) rfl ⟨w, false, by omega, rfl, rfl⟩) dp_none (dp_some (de_var 1))) (by rw [cut_map])) da_nil)) rfl)

abbrev s_law_totals : Stmt := topS 61
theorem c_law_totals : FnScope ["_law_w"] ["_law_w"] (defScope s_law_totals) := ⟨rfl, rfl, rfl, by decide +kernel, rfl, by decide +kernel, by decide +kernel⟩
def tots (w : List Int) : List Int := [tot w true 1, tot w true 2, tot w false 1]
def S_totals (ds : List PyData) (r : Rt) : Prop := ∃ w : List Int, Wd w ∧ ds = [dW w] ∧ r = .lst ((tots w).map .int)
theorem f_law_totals (D1 : Df P w K mg base "rising_total" 7 ["word", "many"] (spR K 2 (S_total true))) (D2 : Df P w K mg base "falling_total" 7 ["word", "many"] (spR K 2 (S_total false))) (T : Tx K mg "_law_totals" s_law_totals) : Df P w K mg base "_law_totals" 8 ["_law_w"] (spR K 1 S_totals) := by
  refine dfR T c_law_totals rfl (fun _ _ _ _ _ _ us hl => match us, hl with | [_], _ => rfl) fun f cdv A outer s H E ds r hr hS => ?_
  obtain ⟨w, hw, rfl, rfl⟩ := hS
  refine sds_one (sd_retF (df_lst (da_cons (de_cd D1 (hr.mono (by omega)) (by rfl) (da_cons (de_var 0) (da_cons de_int da_nil)) rfl ⟨w, 1, hw, by decide, by decide, rfl, rfl⟩) (da_cons (de_cd D1 (hr.mono (by omega)) (by rfl) (da_cons (de_var 0) (da_cons de_int da_nil)) rfl ⟨w, 2, hw, by decide, by decide, rfl, rfl⟩) (da_cons (de_cd D2 (hr.mono (by omega)) (by rfl) (da_cons (de_var 0) (da_cons de_int da_nil)) rfl ⟨w, 1, hw, by decide, by decide, rfl, rfl⟩) da_nil))) (le5 rfl)) fun ds hds => ?_)
  subst hds
  rfl

abbrev s_law_number : Stmt := topS 57
theorem c_law_number : FnScope ["_law_thing", "_law_least", "_law_top"] ["_law_thing", "_law_least", "_law_top"] (defScope s_law_number) := ⟨rfl, rfl, rfl, by decide +kernel, rfl, by decide +kernel, by decide +kernel⟩
theorem f_law_number (B : Bi mg) (T : Tx K mg "_law_number" s_law_number) : Df P w K mg base "_law_number" 1 ["_law_thing", "_law_least", "_law_top"] (spR K 3 S_within) := by
  refine dfR T c_law_number rfl (fun _ _ _ _ _ _ us hl => match us, hl with | [_, _, _], _ => rfl) fun f cdv A outer s H E ds r hr hS => ?_
  obtain ⟨v, lo, hi, rfl, rfl⟩ := hS
  refine sds_one (sd_retD (de_and (de_isi (by rfl) B.isinstance b_isinstance (by rfl) B.int b_int (de_var 0) rfl (k := true) (by decide +kernel)) fun _ =>
    de_and (de_not (de_isi (by rfl) B.isinstance b_isinstance (by rfl) B.bool b_bool (de_var 0) rfl (k := false) (by decide +kernel))) fun _ => de_one (de_chain op_le op_le (de_var 1) (de_var 0) (de_var 2))) rfl)

abbrev s_law_spelled : Stmt := topS 55
theorem c_law_spelled : FnScope ["_law_filled", "_law_found", "_law_each"] ["_law_filled"] (defScope s_law_spelled) := ⟨rfl, rfl, rfl, by decide +kernel, rfl, by decide +kernel, by decide +kernel⟩
theorem f_law_spelled (B : Bi mg) (T : Tx K mg "_law_spelled" s_law_spelled) : Df P w K mg base "_law_spelled" 1 ["_law_filled"] (spR K 1 S_wor) := by
  refine dfR T c_law_spelled rfl (fun _ _ _ _ _ _ us hl => match us, hl with | [_], _ => rfl) fun f cdv A outer s H E ds r hr hS => ?_
  obtain ⟨T, hl, hl2, rfl, rfl⟩ := hS
  refine sds_cons (sd_set c_law_spelled.nd (i := 1) rfl (by exact Or.inl rfl) (de_tup da_nil (Nat.zero_le _)) fun d hd => ?_)
  subst hd
  refine sds_cons (sd_for (A := gN 2) (js := [2]) (fun ds i δ => ∃ s2, δ = [.dat (dR T), .dat (dW (T.reverse.take i).flatten), s2]) PassesOwn.never rfl (di_tup (de_rev (de_var 0))) (eg_name c_law_spelled.nd rfl (by exact Or.inl rfl) (by decide)) (fun ds hd => ⟨_, rfl⟩) (fun ds i d δ1 hd hi h1 => ?_) fun ds δ1 hd h1 => ?_)
  · subst hd
    obtain ⟨s2, rfl⟩ := h1
    rw [← List.map_reverse] at hi
    obtain ⟨R, hR, rfl⟩ := dR_got hi
    refine ⟨_, rfl, sds_one (sd_set c_law_spelled.nd (i := 1) rfl (by exact Or.inl rfl) (de_cat (de_var 1) (de_tupT (by rfl) B.tuple b_tuple (da_cons (de_var 2) da_nil)) ?_) fun d hd => ?_)⟩
    · have := wordOf_part T (i + 1)
      rw [List.take_add_one, hR, List.flatten_append, List.length_append] at this
      rw [dW_len, dW_len]
      simp at this
      simp
      omega
    · subst hd
      refine ⟨.dat (dW R), ?_⟩
      rw [List.take_add_one, hR, List.flatten_append]
      show [_, Slot.dat _, _] = [_, Slot.dat (.tuple (List.map PyData.int (_ ++ _))), _]
      rw [List.map_append]
      simp
  · subst hd
    obtain ⟨s2, rfl⟩ := h1
    refine sds_one (sd_retD (de_var 1) ?_)
    show Rt.dat _ = Rt.dat _
    rw [List.length_reverse, dR_len, wordOf_flat, List.take_of_length_le (by rw [List.length_reverse]; exact Nat.le_refl _)]
end
end WL

set_option maxRecDepth 100000
set_option maxHeartbeats 4000000
namespace WL
open PySem PySem.Spec PyProof.Rows L2
theorem Wd.perm {w v : List Int} (h : Wd w) (p : v.Perm w) : Wd v := ⟨by rw [p.length_eq]; exact h.1, fun x hx => h.2 x (p.mem_iff.mp hx)⟩
theorem Wd.after {w v : List Int} {k : Nat} (h : Wd w) (e : WS.after w k = some v) : Wd v := h.perm (WS.after_perm e)
theorem Wd.path {w v : List Int} {ks : List Nat} (h : Wd w) (e : WS.path w ks = some v) : Wd v := h.perm (WS.path_perm e)
section
variable {P : Program} {w : World} {K : PySem.W.Frag} {mg : Str → Option Value} {base : Heap}
abbrev s_law_three : Stmt := topS 56
theorem c_law_three : FnScope ["_law_w", "_law_k", "_law_a", "_law_b", "_law_c"] ["_law_w", "_law_k"] (defScope s_law_three) := ⟨rfl, rfl, rfl, by decide +kernel, rfl, by decide +kernel, by decide +kernel⟩
def S_lthree (ds : List PyData) (r : Rt) : Prop := ∃ (w : List Int) (k : Nat), w.length ≤ 1000 ∧ ds = [dW w, .int (k : Int)] ∧ r = .lst ((WS.after w k).toList.map dW)
theorem f_law_three (B : Bi mg) (T : Tx K mg "_law_three" s_law_three) : Df P w K mg base "_law_three" 1 ["_law_w", "_law_k"] (spR K 2 S_lthree) := by
  refine dfR T c_law_three rfl (fun _ _ _ _ _ _ us hl => match us, hl with | [_, _], _ => rfl) fun f cdv A outer s H E ds r hr hS => ?_
  obtain ⟨w, k, hl, rfl, rfl⟩ := hS
  refine sds_cons (sd_ifD (dt_not (dt_chain op_le op_le de_int (de_var 1) (de_sub (de_len (by rfl) B.len b_len (da_cons (de_var 0) da_nil)) de_int))) (fun hk => ?_) fun hk => ?_)
  · rw [dW_len] at hk
    have h1 : w.length < k + 3 := by
      by_cases h : w.length < k + 3
      · exact h
      · rw [decide_eq_true (by omega), decide_eq_true (by omega)] at hk
        cases hk
    refine sds_one (sd_retF (df_lst da_nil (Nat.zero_le _)) fun ds hds => ?_)
    subst hds
    rw [WS.after_far h1]
    rfl
  · rw [dW_len] at hk
    have h2 : k + 3 ≤ w.length := by
      by_cases h : k + 3 ≤ w.length
      · exact h
      · rw [decide_eq_false (show ¬ (k : Int) ≤ (w.length : Int) - 3 by omega), Bool.and_false] at hk
        cases hk
    obtain ⟨u, v, z, e1, e2, e3, ew⟩ := WS.parts_at h2
    have eaft := WS.after_parts_at h2 ew
    have ecut : cutG (w.map PyData.int) (some (k : Int)) (some ((k : Int) + 3)) = [.int u, .int v, .int z] := by
      rw [show ((k : Int) + 3) = ((k + 3 : Nat) : Int) by omega, cut_mid _ (by rw [dW_len]; omega) (by rw [dW_len]; omega), dW_drop, dW_take]
      have ek : (w.take k).length = k := by rw [List.length_take]; omega
      have : (w.drop k).take (k + 3 - k) = [u, v, z] := by
        conv => lhs; rw [ew]
        rw [List.drop_append, ek, Nat.sub_self, List.drop_of_length_le (by omega)]
        show List.take (k + 3 - k) (u :: v :: z :: _) = _
        rw [show k + 3 - k = 3 by omega]
        rfl
      rw [this]
      rfl
    have cpre : cutG (w.map PyData.int) none (some (k : Int)) = (w.take k).map .int := by rw [cut_pre _ (by rw [dW_len]; omega), dW_take]
    have cpost : cutG (w.map PyData.int) (some ((k : Int) + 3)) none = (w.drop (k + 3)).map .int := by rw [show ((k : Int) + 3) = ((k + 3 : Nat) : Int) by omega, cut_post _ (by rw [dW_len]; omega), dW_drop]
    have tl : (w.take k).length ≤ 1000 := by rw [List.length_take]; omega
    have dl : (w.drop (k + 3)).length ≤ 1000 := by rw [List.length_drop]; omega
    have cat3 : ∀ a b c : Int, ((w.take k).map PyData.int ++ [.int a, .int b, .int c]) ++ (w.drop (k + 3)).map .int = (w.take k ++ a :: b :: c :: w.drop (k + 3)).map .int := fun a b c => by
      rw [List.map_append, List.append_assoc]
      rfl
    have made : ∀ a b c : Int, WS.three u v z = some (a, b, c) → (WS.after w k).toList.map dW = [dW (w.take k ++ a :: b :: c :: w.drop (k + 3))] := fun a b c h => by
      rw [eaft, h]
      rfl
    refine sds_nil (sds_cons (sd_asg (A := g3 (gN 2) (gN 3) (gN 4)) (js := [2, 3, 4]) (DE.to (de_cut (de_var 0) (dp_some (de_var 1)) (dp_some (de_add (de_var 1) de_int))) (by rw [ecut])) (eg_three rfl (eg_name c_law_three.nd rfl (by exact Or.inl rfl) (by decide)) (eg_name c_law_three.nd rfl (by exact Or.inl rfl) (by decide)) (eg_name c_law_three.nd rfl (by exact Or.inl rfl) (by decide))) fun d hd => ⟨_, by subst hd; rfl, ?_⟩))
    refine sds_cons (sd_ifD (DT.to (dt_w (dw_or (dt_chain op_lt op_le (de_var 3) (de_var 2) (de_var 4)) fun _ => dw_or1 (dt_chain op_lt op_le (de_var 4) (de_var 2) (de_var 3)))) (or_and_dec ..)) (fun hk => ?_) fun hk => ?_)
    · have h1 := of_decide_eq_true hk
      have h3 : WS.three u v z = some (u, z, v) := by rw [WS.three, if_pos h1]
      refine sds_one (sd_retF (df_lst (da_cons (de_cat (de_cat (DE.to (de_cut (de_var 0) dp_none (dp_some (de_var 1))) (by rw [cpre])) (de_tup (da_cons (de_var 2) (da_cons (de_var 4) (da_cons (de_var 3) da_nil))) (le5 rfl)) ?_) (DE.to (de_cut (de_var 0) (dp_some (de_add (de_var 1) de_int)) dp_none) (by rw [cpost])) ?_) da_nil) (le5 rfl)) fun ds hds => ?_)
      · rw [dW_len]; simp; omega
      · rw [List.length_append, dW_len, dW_len]; simp; omega
      · subst hds
        show Rt.lst _ = Rt.lst _
        rw [made _ _ _ h3, cat3]
        rfl
    · have h1 := of_decide_eq_false hk
      refine sds_nil (sds_one (sd_retF (L := fun ds => ds = (WS.after w k).toList.map dW) (ef_if (DT.to (dt_w (dw_or (dt_chain op_le op_lt (de_var 2) (de_var 4) (de_var 3)) fun _ => dw_or1 (dt_chain op_le op_lt (de_var 3) (de_var 4) (de_var 2)))) (or_and_dec ..)) (fun hk2 => ?_) fun hk2 => ?_) fun ds hds => by subst hds; rfl))
      · have h2 := of_decide_eq_true hk2
        have h3 : WS.three u v z = some (v, u, z) := by rw [WS.three, if_neg h1, if_pos h2]
        refine EF.mono (df_lst (da_cons (de_cat (de_cat (DE.to (de_cut (de_var 0) dp_none (dp_some (de_var 1))) (by rw [cpre])) (de_tup (da_cons (de_var 3) (da_cons (de_var 2) (da_cons (de_var 4) da_nil))) (le5 rfl)) ?_) (DE.to (de_cut (de_var 0) (dp_some (de_add (de_var 1) de_int)) dp_none) (by rw [cpost])) ?_) da_nil) (le5 rfl)) fun ds hds => ?_
        · rw [dW_len]; simp; omega
        · rw [List.length_append, dW_len, dW_len]; simp; omega
        · rw [← hds, made _ _ _ h3, cat3]
          rfl
      · have h2 := of_decide_eq_false hk2
        have h3 : WS.three u v z = none := by rw [WS.three, if_neg h1, if_neg h2]
        refine EF.mono (df_lst da_nil (Nat.zero_le _)) fun ds hds => ?_
        rw [← hds, eaft, h3]
        rfl

abbrev s_law_chain_right : Stmt := topS 60
theorem c_law_chain_right : FnScope ["_law_w", "_law_v", "_law_found", "_law_here", "_law_k", "_law_some"] ["_law_w", "_law_v", "_law_found"] (defScope s_law_chain_right) := ⟨rfl, rfl, rfl, by decide +kernel, rfl, by decide +kernel, by decide +kernel⟩
def S_cright (ds : List PyData) (r : Rt) : Prop := ∃ (w v : List Int) (ks : List Nat), Wd w ∧ WS.path w ks = some v ∧ ds = [dW w, dW v, .tuple (dN ks)] ∧ r = .dat (.bool true)
theorem f_law_chain_right (B : Bi mg) (D1 : Df P w K mg base "_law_three" 1 ["_law_w", "_law_k"] (spR K 2 S_lthree)) (D2 : Df P w K mg base "_law_number" 1 ["_law_thing", "_law_least", "_law_top"] (spR K 3 S_within)) (D3 : Df P w K mg base "moved" 6 ["word", "place"] (spR K 2 S_moved)) (T : Tx K mg "_law_chain_right" s_law_chain_right) : Df P w K mg base "_law_chain_right" 7 ["_law_w", "_law_v", "_law_found"] (spR K 3 S_cright) := by
  refine dfR T c_law_chain_right rfl (fun _ _ _ _ _ _ us hl => match us, hl with | [_, _, _], _ => rfl) fun f cdv A outer s H E ds r hr hS => ?_
  obtain ⟨w, v, ks, hw, hp, rfl, rfl⟩ := hS
  refine sds_cons (sd_ifD (k := false) (dt_not (k := true) (dt_val (de_isi (by rfl) B.isinstance b_isinstance (by rfl) B.tuple b_tuple (de_var 2) rfl (k := true) (by decide +kernel)))) (fun hk => by cases hk) fun hk => sds_nil ?_)
  refine sds_cons (sd_set c_law_chain_right.nd (i := 3) rfl (by exact Or.inl rfl) (de_var 0) fun d hd => ?_)
  subst hd
  refine sds_cons (sd_for (A := gN 4) (js := [4]) (fun ds i δ => ∃ cur s4 s5, δ = [.dat (dW w), .dat (dW v), .dat (.tuple (dN ks)), .dat (dW cur), s4, s5] ∧ Wd cur ∧ WS.path cur (ks.drop i) = some v) PassesOwn.never rfl (di_tup (de_var 2)) (eg_name c_law_chain_right.nd rfl (by exact Or.inl rfl) (by decide)) (fun ds hd => ⟨w, _, _, rfl, hw, hp⟩) (fun ds i d δ1 hd hi h1 => ?_) fun ds δ1 hd h1 => ?_)
  · subst hd
    obtain ⟨k, hk2, rfl⟩ := dN_got hi
    obtain ⟨hil, ek⟩ := List.getElem?_eq_some_iff.mp hk2
    obtain ⟨cur, t4, t5, rfl, hcw, hp⟩ := h1
    have hdk : ks.drop i = k :: ks.drop (i + 1) := by rw [← ek]; exact List.drop_eq_getElem_cons hil
    rw [hdk] at hp
    obtain ⟨x, hx1, hx2⟩ := WS.path_uncons hp
    have hkl := (WS.after_len hx1).2
    have hcl := hcw.1
    refine ⟨_, rfl, sds_cons (sd_setF c_law_chain_right.nd (i := 5) rfl (by exact Or.inl rfl) (L := fun ds => ds = [dW x]) (ef_if (DT.to (dt_val (de_cd D2 (hr.mono (by omega)) (by rfl) (da_cons (de_var 4) (da_cons de_int (da_cons de_int da_nil))) rfl ⟨(k : Int), 0, 12, rfl, rfl⟩)) (b' := true) ?_) (fun _ => EF.mono (df_cd D1 (hr.mono (by omega)) (by rfl) (da_cons (de_var 3) (da_cons (de_var 4) da_nil)) rfl ⟨cur, k, by omega, rfl, rfl⟩) fun ds hds => ?_) fun hk => by cases hk) fun ds hds => ?_)⟩
    · rw [decide_eq_true (by omega), decide_eq_true (by omega)]
      rfl
    · rw [← hds, hx1]
      rfl
    subst hds
    refine sds_cons (sd_ifD (k := false) (dt_w (DW.to (dw_or (dt_cmp (dc_eqL (u64 hr) (dr_own 5) (er_fresh (df_lst da_nil (Nat.zero_le _))) (shaped_LR [x]) (shaped_LR []))) fun _ => dw_or1 (dt_cmp (dc_ne (u64 hr) (de_cd D3 (hr.mono (by omega)) (by rfl) (da_cons (de_var 3) (da_cons (de_var 4) da_nil)) rfl ⟨cur, x, k, hcw, hx1, rfl, rfl⟩) (de_ixR (i := 0) (dr_own 5) de_int rfl) (shaped_W _) (shaped_W _)))) ?_)) (fun hk => by cases hk) fun hk => sds_nil ?_)
    · have q1 : PyData.eqv (.list ([x].map dW)) (.list []) = false := by
        rw [show ([] : List PyData) = ([] : List (List Int)).map dW from rfl, eqv_LR]
        rfl
      rw [q1, eqv_W, decide_eq_true rfl]
      rfl
    refine sds_one (sd_set c_law_chain_right.nd (i := 3) rfl (by exact Or.inl rfl) (de_ixR (i := 0) (dr_own 5) de_int rfl) fun d hd => ?_)
    subst hd
    exact ⟨x, _, _, rfl, hcw.after hx1, hx2⟩
  · subst hd
    obtain ⟨cur, t4, t5, rfl, hcw, hp⟩ := h1
    rw [dN_len, List.drop_of_length_le (Nat.le_refl _)] at hp
    have e : cur = v := Option.some.inj hp
    subst e
    refine sds_one (sd_retD (de_cmp (dc_eq (u64 hr) (de_var 3) (de_var 1) (shaped_W _) (shaped_W _))) ?_)
    show Rt.dat _ = Rt.dat _
    rw [eqv_W, decide_eq_true rfl]
end
end WL

set_option maxRecDepth 100000
set_option maxHeartbeats 4000000
namespace WL
open PySem PySem.Spec PyProof.Rows L2
/-! ### sorted of a list of pairs -/
def dP (p : Int × Int) : PyData := .tuple [.int p.1, .int p.2]
open Classical in
noncomputable def kOf (K : PySem.W.Frag) (H : Hp) (v : V) : Int × Int := if h : ∃ p : Int × Int, Tp K H v (dP p) then Classical.choose h else (0, 0)
section
variable {X : Cx}
theorem tp_pair {K : PySem.W.Frag} {H : Hp} {v : V} {p : Int × Int} (h : Tp K H v (dP p)) : ∃ t, v = .ref t ∧ SqT K H t [.int p.1, .int p.2] := by
  cases h with
  | tup s a =>
    cases a with
    | cons a1 a2 =>
      cases a2 with
      | cons a2 a3 =>
        cases a3
        cases a1
        cases a2
        exact ⟨_, rfl, s⟩
theorem tp_pair_of {K : PySem.W.Frag} {H : Hp} {t : Addr} {p : Int × Int} (h : SqT K H t [.int p.1, .int p.2]) : Tp K H (.ref t) (dP p) := .tup h (.cons (.int _) (.cons (.int _) .nil))
theorem kOf_eq {pins : List (Addr × Obj)} {σ : L2.St} {H : Hp} {s : Shared} {v : V} {p : Int × Int} (I : Inv X pins σ H s) (h : Tp X.K H v (dP p)) : kOf X.K H v = p := by
  have ex : ∃ p : Int × Int, Tp X.K H v (dP p) := ⟨p, h⟩
  have e : kOf X.K H v = Classical.choose ex := dif_pos ex
  obtain ⟨t, rfl, s1⟩ := tp_pair h
  obtain ⟨t', e', s2⟩ := tp_pair (Classical.choose_spec ex)
  cases e'
  have e2 := I.tuple_inj s1 s2
  rw [e]
  injection e2 with e3 e4
  injection e4 with e4 _
  injection e3 with e3
  injection e4 with e4
  exact (Prod.ext e3 e4).symm
def rSrtP (K : PySem.W.Frag) : List V → Hp → VK → Prop := fun vs H Q => ∃ (a : Addr) (xs : List V) (ps : List (Int × Int)), vs = [V.ref a] ∧ SqL K H a xs ∧ TpAll K H xs (ps.map dP) ∧
  ∀ (ys : List V) (qs : List (Int × Int)) (p : Addr), qs.Perm ps → qs.Pairwise (fun a b => SrtO.lexB b a = false) → TpAll K H ys (qs.map dP) → H p = none → Q (.ref p) (upd H p (.lst ys))
theorem tpall_of {K : PySem.W.Frag} {H : Hp} {k : V → Int × Int} : ∀ {ys : List V}, (∀ y ∈ ys, Tp K H y (dP (k y))) → TpAll K H ys ((ys.map k).map dP)
  | [], _ => .nil
  | y :: ys, h => .cons (h y List.mem_cons_self) (tpall_of fun z hz => h z (List.mem_cons_of_mem _ hz))
theorem tpall_k {pins : List (Addr × Obj)} {σ : L2.St} {H : Hp} {s : Shared} (I : Inv X pins σ H s) : ∀ {xs : List V} {ps : List (Int × Int)}, TpAll X.K H xs (ps.map dP) → xs.map (kOf X.K H) = ps ∧ ∀ x ∈ xs, Tp X.K H x (dP (kOf X.K H x))
  | [], [], _ => ⟨rfl, fun x h => nomatch h⟩
  | _ :: _, [], h => by cases h
  | [], _ :: _, h => by cases h
  | x :: xs, p :: ps, h => by
    cases h with
    | cons h1 h2 =>
      obtain ⟨e, m⟩ := tpall_k I h2
      have e1 := kOf_eq I h1
      refine ⟨by rw [List.map_cons, e, e1], fun z hz => ?_⟩
      rcases List.mem_cons.mp hz with rfl | hz
      · rw [e1]
        exact h1
      · exact m z hz
theorem cr_srtP : CallR X (.builtin "sorted") (rSrtP X.K) := by
  intro pins s σ H vs us Q I r h
  obtain ⟨a, xs, ps, rfl, hs, ht, q⟩ := h
  obtain ⟨ek, hm⟩ := tpall_k I ht
  generalize hk : kOf X.K H = k at *
  have hx : ∀ x ∈ xs, ∃ t, x = V.ref t ∧ SqT X.K H t [.int (k x).1, .int (k x).2] := fun x m => tp_pair (hm x m)
  obtain ⟨its, rv, hl, hz⟩ := I.list hs
  obtain ⟨u, rfl, ru⟩ := vals1 r
  obtain rfl : u = Value.ref a := ru
  obtain ⟨e1, e2⟩ := refs_back rv fun x m => by
    obtain ⟨t, e, _⟩ := hx x m
    exact ⟨t, e⟩
  refine SrtO.sorted_pairsO (k := fun u => k (backV u)) hl.isList (by rw [← rv.length]; exact hz) (fun v hv => ?_) fun h' d out h1 h2 kp hd hn => ?_
  · obtain ⟨t, rfl⟩ := e2 v hv
    have hm : V.ref t ∈ xs := by rw [e1]; exact List.mem_map.mpr ⟨_, hv, rfl⟩
    obtain ⟨t', e, ht⟩ := hx _ hm
    cases e
    obtain ⟨its2, r2, ⟨o, ho, hc, n, hd⟩, _⟩ := I.tuple ht
    obtain ⟨u1, u2, rfl, ri, rj⟩ := vals2 r2
    obtain ⟨t1, rfl⟩ := ri
    obtain ⟨t2, rfl⟩ := rj
    exact ⟨t, o, t1, t2, n, rfl, ho, hc, hd⟩
  · have h3 : ∀ u ∈ out, ∃ a, u = Value.ref a := fun u hu => e2 u (h2.perm.mem_iff.mp hu)
    obtain ⟨n, hn⟩ := hn
    have hb : SrtO.Stb (ltP k) (out.map backV) xs := by
      rw [e1]
      exact SrtO.Stb.map (ltP_swo k) backV h2
    have hso := SrtO.srtd_map (lt := ltP k) (f := backV) h1
    refine ⟨.ref d, upd H d (.lst (out.map backV)), I.laid (t' := s.toks) kp hd ⟨?_, out, n, vals_back h3, hn⟩, rfl, q _ ((out.map backV).map k) d ?_ ?_ ?_ (I.hok.fresh hd)⟩
    · rw [hb.len]
      exact hz
    · rw [← ek]
      exact hb.perm.map k
    · exact List.pairwise_map.mpr hso
    · exact tpall_of fun y hy => hm y (hb.perm.mem_iff.mp hy)
end
section
variable {X : Cx} {c : Option Addr} {δ δb : List Slot} {D : DEnds} {tg iter a b e o : Expr} {es : List Expr} {body : List Stmt} {pos p p2 pos' tpos : Pos} {d : PyData} {ds ds2 : List PyData} {L : List PyData → Prop} {R : PyData → Prop} {x y : Str} {i j : Nat}
theorem ef_srtP {ps : List (Int × Int)} (hg : Gl X x) (hm : X.mg x = none) (hv : bootBuiltins x = some (.builtin "sorted")) (ha : PA X [a] (tAR c X.K δ (Eq (ps.map dP))))
    (hn : x ≠ "__name__" := by decide) (hdb : (x == ("__debug__" : Str)) = false := by decide) (he : starEach [a] X.env = (false, eval a X.env) :: starEach [] X.env := by rfl) (hpl : (backTo pos (starEach [] X.env)).any (·.1) = false := by rfl) :
    EF X c (.Call (.Name x p) [a] [] pos) δ (fun es => ∃ qs : List (Int × Int), es = qs.map dP ∧ qs.Perm ps ∧ qs.Pairwise fun a b => SrtO.lexB b a = false) := ef_callBR cr_srtP hg hm hv ha (fun H p vs es Q s t k q => by
  subst k
  exact ⟨_, vs, ps, rfl, s, t, fun ys qs p h1 h2 h3 hp => q p ys _ hp (TpAll.te (ExC.new (c := c) hp).te _ _ h3) ⟨qs, rfl, h1, h2⟩⟩) hn hdb he hpl

/-! ### loops over what a slot held -/
def tI2 (c : Option Addr) (K : PySem.W.Frag) (δ δb : List Slot) (L : List PyData → Prop) : TI := fun σ H R => (∃ H0, Rep c K H0 H σ δ) ∧ ∀ J ds H', ExC c H H' → L ds → ItD c K (mask (ownA σ δb) H') J ds → R J H'
theorem sd_forG {A : TGD} {js : List Nat} (I : List PyData → Nat → List Slot → Prop) (hp : PassesOwn (model X.prog X.w) X.A X.env X.xe) (hc : X.calm = true) (hdb : ∀ H0 H σ, Rep c X.K H0 H σ δ → Rep c X.K H0 H σ δb) (hi : PI X tg iter (tI2 c X.K δ δb L)) (hg : EG X c tg A js)
    (h0 : ∀ ds, L ds → I ds 0 δb) (hs : ∀ ds i d δ1, L ds → ds[i]? = some d → I ds i δ1 → ∃ δ2, A d δ1 = some δ2 ∧ SDs X c body δ2 ⟨I ds (i + 1), D.rt, D.nx, I ds (i + 1)⟩)
    (hd : ∀ ds δ1, L ds → I ds ds.length δ1 → D.nx δ1) (hf : ∀ x, foldedSetIterable iter X.env x = pure x := by intro _; rfl) : SD X c (.For tg iter body [] pos) δ D := by
  refine ps_imp (ps_for hp hc hi hg pss_wT hf) fun D' σ H ⟨H0, r, k⟩ => ⟨⟨H0, r⟩, fun J ds H1 x1 l it => ?_⟩
  have r1 := hdb _ _ _ (r.mono x1)
  have eB : ExC c H0 (mask (ownA σ δb) H1) := r1.mask_ex
  have un : ∀ {H σ' δ'}, Rep c X.K (mask (ownA σ δb) H1) H σ' δ' → Rep c X.K H0 H σ' δ' := fun r' => r'.unbase eB r.ck
  refine ⟨fun i m σ' H' => m = ds.length - i ∧ i ≤ ds.length ∧ ∃ δ1, Rep c X.K (mask (ownA σ δb) H1) H' σ' δ1 ∧ I ds i δ1, ⟨ds.length, rfl, Nat.zero_le _, δb, r1.rebase, h0 ds l⟩, ?_⟩
  rintro i m σ2 H2 ⟨rfl, hi2, δ1, r2, i2⟩
  have cs : i = ds.length ∨ i < ds.length := by omega
  rcases cs with e | hlt
  · subst e
    exact .inl ⟨it.stop H2 r2.base, k.nx _ _ _ (un r2) (hd ds δ1 l i2)⟩
  · refine .inr ⟨it.go i H2 hlt r2.base, fun σ' H' => ∃ δ1, Rep c X.K (mask (ownA σ δb) H1) H' σ' δ1 ∧ I ds (i + 1) δ1, fun σ' H' ⟨δ3, r3, i3⟩ => ⟨ds.length - (i + 1), by omega, rfl, hlt, δ3, r3, i3⟩, fun v H3 y => ?_⟩
    obtain ⟨x3, d, hdd, td⟩ := it.yld i H2 v H3 hlt r2.base y
    obtain ⟨δ2, eA, bd⟩ := hs ds i d δ1 l hdd i2
    refine ⟨_, δ1, d, δ2, r2.mono x3, td, eA, fun σ' _ r' pins s I' => bd.run pins s σ' H3 _ I' ⟨_, r', ⟨fun σ4 H4 δ4 r4 q4 => ⟨δ4, r4, q4⟩, fun w H4 rr x4 ok q4 => ?_, fun σ4 H4 δ4 r4 q4 => k.nx _ _ _ (un r4) q4, fun σ4 H4 δ4 r4 q4 => ⟨δ4, r4, q4⟩⟩⟩⟩
    refine k.rt w H4 rr (eB.trans x4) (RetOk.back (c := c) ok (fun q hq => ?_) fun q e hq => ?_) q4
    · by_cases hcq : c = some q
      · exact .inr hcq
      · exact .inl (eB.back hcq hq)
    · obtain ⟨u1, u2, u3, u4⟩ := eB.ck q e (r.ck q e)
      rw [hq] at u4
      cases u4
theorem dropped {K : PySem.W.Frag} {H0 H : Hp} {σ : L2.St} (r : Rep c K H0 H σ δ) {a : Addr} {s : Slot} (hi : δ[i]? = some s) (ha : adr σ[i]? a (some s)) : ¬ ownA σ (δ.set i .un) a := fun ⟨j, z⟩ => by
  by_cases e : j = i
  · subst e
    rw [List.getElem?_set_self (List.getElem?_eq_some_iff.mp hi).1] at z
    exact z
  · rw [List.getElem?_set_ne (Ne.symm e)] at z
    exact r.sep j i a e z (by rw [hi]; exact ha)
/-- enumerate(one's own list), which is not touched in the loop -/
theorem di_enumO {elts : List Expr} {kk : Nat} {pn : Pos} (i : Nat) (hg : Gl X "enumerate") (hm : X.mg "enumerate" = none) (hN : X.N[i]? = some y) (hv : Vis X.env.scope y) (hδ : δ[i]? = some (.own ds)) (hd : (y == ("__debug__" : Str)) = false := by decide) (hcd : (y == ("__classdict__" : Str)) = false := by decide)
    (hs : starEach [Expr.Name y pn] X.env = [(false, eval (Expr.Name y pn) X.env)] := by rfl) (hs1 : starEach [Expr.Name y pn] X.env = (false, eval (Expr.Name y pn) X.env) :: starEach [] X.env := by rfl) :
    PI X (.Tuple elts kk tpos) (.Call (.Name "enumerate" p) [.Name y pn] [] pos) (tI2 c X.K δ (δ.set i .un) (Eq (enumD ds))) := pi_imp (pi_enum hg hm (pa_cons (pe_var hN hv hd hcd) pa_nil hs1) hs) fun σ H Q q => by
  obtain ⟨⟨H0, rp⟩, q⟩ := q
  obtain ⟨a, vs, h1, h2, h3, h4⟩ := rp.at_ i _ hδ
  have hn := dropped rp hδ (show adr σ[i]? a (some (.own ds)) from h1)
  have nc := rp.nc h2
  have r1 := rp.drop i
  have st : ∀ {H2 : Hp}, ExC c (mask (ownA σ (δ.set i .un)) H) H2 → SqL X.K H2 a vs := fun x => SqL.of (x.ex _ _ nc (by rw [mask_out hn]; exact h3))
  refine ⟨_, h1, a, vs, rfl, SqL.of h3, q _ _ H ExC.refl rfl ⟨fun i H2 hi x => ?_, fun H2 x => ?_, fun i H2 v H3 hi x y => ?_⟩⟩
  · rw [enumD_len] at hi
    obtain ⟨v, d, h1, _⟩ := tp_at h4 (ExC.mask_te r1 x) hi
    exact ⟨vs, v, st x, h1⟩
  · exact ⟨vs, st x, by rw [enumD_len, h4.len]; exact Nat.le_refl _⟩
  · rw [enumD_len] at hi
    obtain ⟨T, w', rfl, nT, rfl, y⟩ := y
    obtain ⟨w, d, h1, h2, h3⟩ := tp_at h4 (ExC.mask_te r1 x) hi
    have : w' = w := Option.some.inj ((y vs (st x)).symm.trans h1)
    subst this
    have x' : ExC c H2 (upd H2 T (.tup [.int (i : Nat), w'])) := ExC.new nT
    exact ⟨x', _, enumD_at h2, .tup (SqT.of upd_same) (.cons (.int _) (.cons (Tp.te x'.te _ _ h3) .nil))⟩

/-! ### a dict of one's own -/
def sDic (p : Addr) (kvs : List (Int × Int)) : Slot := .frg true p [(p, .dK (kvs.map fun q => (.inl q.1, .int q.2)))]
theorem sd_dnew (hN : X.N.Nodup) (hi : X.N[i]? = some x) (hx : Loc X.env.scope x) (h : ∀ p, D.nx (δ.set i (sDic p []))) (hs : swapsWith (.Dict [] [] pos) (some (.Name x pos')) p2.line X.env = pure false := by rfl) (hf : X.fn x = true ∨ X.env.scope.names.lookup x = some .local := by first | exact .inl rfl | exact .inr rfl | assumption) :
    SD X c (.Assign [.Name x pos'] (.Dict [] [] pos) p2) δ D := ps_imp (ps_set hN hi hx pe_dnewK hs hf) fun D' σ H ⟨H0, r, k⟩ => fun p hp =>
  k.nx _ _ _ (r.newZ (ExC.new hp) i fun x hx => by
    have : x = (p, .dK []) := by simpa using hx
    subst this
    exact ⟨hp, upd_same, rfl⟩) (h p)
def valP (kvs : List (Int × Int)) (k : Int) : Option Int := (kvs.find? fun q => decide (q.1 = k)).map (·.2)
def putP (kvs : List (Int × Int)) (k v : Int) : List (Int × Int) := if (kvs.any fun q => decide (q.1 = k)) then kvs.map fun q => if q.1 = k then (q.1, v) else q else kvs ++ [(k, v)]
theorem val_P (k : Int) : ∀ kvs : List (Int × Int), valV (kvs.map fun q => ((.inl q.1 : Key), V.int q.2)) (.inl k) = (valP kvs k).map V.int
  | [] => rfl
  | q :: r => by
    rw [List.map_cons]
    by_cases e : q.1 = k
    · rw [valV_pos (by rw [e])]
      unfold valP
      rw [List.find?_cons, decide_eq_true e]
      rfl
    · rw [valV_neg (fun z => e (Sum.inl.inj z)), val_P k r]
      unfold valP
      rw [List.find?_cons, decide_eq_false e]
/-- x[k] = v -/
theorem sd_dput {kvs : List (Int × Int)} {k v : Int} {pa : Addr} {pn : Pos} (hu : X.A.units + 1 < cLine) (hi : X.N[i]? = some x) (hv : Vis X.env.scope x) (hδ : δ[i]? = some (sDic pa kvs)) (ha : DE X c a δ (.int k)) (hb : DE X c b δ (.int v)) (hnew : valP kvs k = none) (hl : kvs.length < 100000) (hsl : NoSl a)
    (h : D.nx (δ.set i (sDic pa (kvs ++ [(k, v)])))) (hs : swapsWith b (some (.Subscript (.Name x pn) a pos')) pos.line X.env = pure false := by rfl) (hd : (x == ("__debug__" : Str)) = false := by decide) (hcd : (x == ("__classdict__" : Str)) = false := by decide) :
    SD X c (.Assign [.Subscript (.Name x pn) a pos'] b pos) δ D := ps_imp (ps_dput hu (pe_var hi hv hd hcd) ha hb hs) fun D' σ H ⟨H0, r, kk⟩ => by
  refine ⟨⟨H0, r⟩, fun w d1 H1 x1 t1 e1 => ?_⟩
  subst e1
  cases t1
  obtain ⟨g1, g2⟩ := (r.mono x1).at_ i _ hδ
  refine ⟨_, g1, ⟨H0, r.mono x1⟩, fun w d2 H2 x2 t2 e2 => ?_⟩
  subst e2
  cases t2
  have r2 := (r.mono x1).mono x2
  obtain ⟨g1, g2⟩ := r2.at_ i _ hδ
  have hp := (g2 _ List.mem_cons_self).at_
  have e : putK (kvs.map fun q => ((.inl q.1 : Key), V.int q.2)) (.inl k) (.int v) = (kvs ++ [(k, v)]).map fun q => (.inl q.1, .int q.2) := by
    rw [putK_new _ (by rw [val_P, hnew]; rfl), List.map_append]
    rfl
  refine ⟨pa, _, rfl, DPut.k (k := .inl k) (v := .int v) hp (by rw [List.length_map]; exact Nat.lt_of_lt_of_le hl (by decide)), ?_⟩
  rw [e]
  refine kk.nx _ _ _ (r2.mutZ hδ (q := pa) (o := .dK ((kvs ++ [(k, v)]).map fun q => (.inl q.1, .int q.2))) (by simp) rfl fun x hx => .inl ?_) h
  simpa using hx
/-- x[k] -/
theorem de_dget {kvs : List (Int × Int)} {k v : Int} {pa : Addr} {pn : Pos} (i : Nat) (hu : X.A.units + 1 < cLine) (ha : DE X c a δ (.int k)) (hval : valP kvs k = some v) (hsl : NoSl a) (hN : X.N[i]? = some x := by rfl) (hv : Vis X.env.scope x := by first | exact Or.inl rfl | exact Or.inr (Or.inl rfl) | exact Or.inr (Or.inr rfl)) (hδ : δ[i]? = some (sDic pa kvs) := by rfl)
    (hd : (x == ("__debug__" : Str)) = false := by decide) (hcd : (x == ("__classdict__" : Str)) = false := by decide) :
    DE X c (.Subscript (.Name x pn) a pos) δ (.int v) := pe_imp (pe_dget hu (pe_var hN hv hd hcd) ha hsl) fun σ H Q q => by
  obtain ⟨⟨H0, r⟩, q⟩ := q
  obtain ⟨g1, g2⟩ := r.at_ i _ hδ
  refine ⟨_, g1, ⟨H0, r⟩, fun w d2 H2 x2 t2 e2 => ?_⟩
  subst e2
  cases t2
  obtain ⟨g1, g2⟩ := (r.mono x2).at_ i _ hδ
  have hp := (g2 _ List.mem_cons_self).at_
  have hdg := DGet.k (k := .inl k) hp
  rw [val_P, hval] at hdg
  exact ⟨pa, .int v, rfl, hdg, q _ _ H2 x2 (.int v) rfl⟩
end
end WL

set_option maxRecDepth 100000
set_option maxHeartbeats 4000000
namespace WS
open SrtO (lexB lexB_iff lexB_no)
theorem stdAux_get : ∀ {w p : List Int} {i : Nat} {x : Int}, w[i]? = some x → (stdAux p w)[i]? = some (((1 + cLe x p + cLe x (w.take i) + cLt x (w.drop (i + 1)) : Nat) : Int))
  | [], p, i, x, h => by cases h
  | a :: w, p, 0, x, h => by
    cases h
    show some _ = some _
    congr 1
  | a :: w, p, i + 1, x, h => by
    have h : w[i]? = some x := h
    have := stdAux_get (p := a :: p) h
    show (stdAux (a :: p) w)[i]? = _
    rw [this]
    congr 2
    rw [List.take_succ_cons, List.drop_succ_cons, cLe_cons, cLe_cons]
    omega
def prs (w : List Int) : List (Int × Int) := w.zipIdx.map fun q => (q.1, (q.2 : Int))
theorem cnt_before {x : Int} {i : Nat} : ∀ (w : List Int) (n : Nat), n + w.length ≤ i → (w.zipIdx n).countP (fun q => lexB (q.1, (q.2 : Int)) (x, (i : Int))) = cLe x w
  | [], n, _ => rfl
  | a :: w, n, h => by
    rw [List.length_cons] at h
    rw [List.zipIdx_cons, List.countP_cons, cnt_before w (n + 1) (by omega), cLe_cons]
    congr 1
    by_cases e : a ≤ x
    · rw [if_pos e, if_pos (lexB_iff.mpr (by show a < x ∨ (a = x ∧ (n : Int) < (i : Int)); omega))]
    · rw [if_neg e, if_neg (fun z => by have z' : a < x ∨ (a = x ∧ (n : Int) < (i : Int)) := lexB_iff.mp z; omega)]
theorem cnt_behind {x : Int} {i : Nat} : ∀ (w : List Int) (n : Nat), i < n → (w.zipIdx n).countP (fun q => lexB (q.1, (q.2 : Int)) (x, (i : Int))) = cLt x w
  | [], n, _ => rfl
  | a :: w, n, h => by
    rw [List.zipIdx_cons, List.countP_cons, cnt_behind w (n + 1) (by omega), cLt_cons]
    congr 1
    by_cases e : a < x
    · rw [if_pos e, if_pos (lexB_iff.mpr (by show a < x ∨ (a = x ∧ (n : Int) < (i : Int)); omega))]
    · rw [if_neg e, if_neg (fun z => by have z' : a < x ∨ (a = x ∧ (n : Int) < (i : Int)) := lexB_iff.mp z; omega)]
theorem cnt_prs {w : List Int} {x : Int} {i : Nat} (h : w[i]? = some x) : (prs w).countP (fun q => lexB q (x, (i : Int))) = cLe x (w.take i) + cLt x (w.drop (i + 1)) := by
  obtain ⟨hi, ex⟩ := List.getElem?_eq_some_iff.mp h
  have hs : w = w.take i ++ x :: w.drop (i + 1) := by
    rw [← ex, List.getElem_cons_drop, List.take_append_drop]
  unfold prs
  rw [List.countP_map]
  show w.zipIdx.countP (fun q => lexB (q.1, (q.2 : Int)) (x, (i : Int))) = _
  have tl : (w.take i).length = i := by rw [List.length_take]; omega
  conv => lhs; rw [hs]
  rw [List.zipIdx_append, List.countP_append, List.zipIdx_cons, List.countP_cons, cnt_before _ _ (by omega), cnt_behind _ _ (by omega), if_neg]
  · omega
  · intro z
    have z' : x < x ∨ (x = x ∧ ((0 + (w.take i).length : Nat) : Int) < (i : Int)) := lexB_iff.mp z
    omega
/-- in a sorted list of different pairs, as many are less as stand ahead -/
theorem cnt_sorted : ∀ {qs : List (Int × Int)} {r : Nat} {q : Int × Int}, qs.Pairwise (fun a b => lexB b a = false) → qs.Nodup → qs[r]? = some q → qs.countP (fun a => lexB a q) = r
  | [], r, q, _, _, h => by cases h
  | a :: qs, 0, q, h1, h2, h => by
    cases h
    obtain ⟨g1, g2⟩ := List.pairwise_cons.mp h1
    rw [List.countP_eq_zero]
    intro b hb z
    rcases List.mem_cons.mp hb with rfl | hb
    · have := lexB_iff.mp z
      omega
    · rw [g1 b hb] at z
      cases z
  | a :: qs, r + 1, q, h1, h2, h => by
    obtain ⟨g1, g2⟩ := List.pairwise_cons.mp h1
    obtain ⟨n1, n2⟩ := List.nodup_cons.mp h2
    have h : qs[r]? = some q := h
    have hm := List.mem_of_getElem? h
    rw [List.countP_cons, cnt_sorted g2 n2 h, if_pos]
    have h3 := lexB_no.mp (g1 q hm)
    have h4 : a ≠ q := fun e => n1 (by rw [e]; exact hm)
    refine lexB_iff.mpr ?_
    have h5 : ¬ (a.1 = q.1 ∧ a.2 = q.2) := fun z => h4 (Prod.ext z.1 z.2)
    omega
theorem prs_snd : ∀ (w : List Int), (prs w).map (·.2) = (List.range w.length).map fun (i : Nat) => (i : Int) := by
  intro w
  unfold prs
  rw [List.map_map]
  apply List.ext_getElem?
  intro j
  rw [List.getElem?_map, List.getElem?_map, List.getElem?_zipIdx]
  by_cases h : j < w.length
  · rw [List.getElem?_eq_getElem h, List.getElem?_range h]
    simp
  · rw [List.getElem?_eq_none (by omega), List.getElem?_eq_none (by rw [List.length_range]; omega)]
    rfl
theorem nodup_fst {l : List (Int × Int)} (h : (l.map (·.2)).Nodup) : l.Nodup := by
  induction l with
  | nil => exact List.nodup_nil
  | cons a l ih =>
    rw [List.map_cons, List.nodup_cons] at h
    exact List.nodup_cons.mpr ⟨fun z => h.1 (List.mem_map.mpr ⟨a, z, rfl⟩), ih h.2⟩
theorem prs_nodup (w : List Int) : ((prs w).map (·.2)).Nodup := by
  rw [prs_snd]
  exact List.pairwise_map.mpr (List.Pairwise.imp (fun {a b} h e => h (by omega)) List.nodup_range)
theorem prs_get {w : List Int} {i : Nat} {x : Int} (h : w[i]? = some x) : (x, (i : Int)) ∈ prs w := by
  refine List.mem_map.mpr ⟨(x, i), List.mem_of_getElem? (i := i) ?_, rfl⟩
  rw [List.getElem?_zipIdx, h]
  simp
theorem std_rank {w : List Int} {qs : List (Int × Int)} {i r : Nat} {x : Int} (hp : qs.Perm (prs w)) (hs : qs.Pairwise fun a b => lexB b a = false) (h : w[i]? = some x) (hr : qs[r]? = some (x, (i : Int))) : (std w)[i]? = some ((r : Int) + 1) := by
  have nd : qs.Nodup := nodup_fst ((hp.map (·.2)).nodup_iff.mpr (prs_nodup w))
  have c1 := cnt_sorted hs nd hr
  rw [hp.countP_eq, cnt_prs h] at c1
  unfold std
  rw [stdAux_get h]
  congr 1
  have : cLe x [] = 0 := rfl
  omega
end WS
namespace WL
open PySem PySem.Spec PyProof.Rows L2
def kvO (qs : List (Int × Int)) : List (Int × Int) := qs.zipIdx.map fun q => (q.1.2, (q.2 : Int) + 1)
theorem kvO_snoc (qs : List (Int × Int)) (q : Int × Int) : kvO (qs ++ [q]) = kvO qs ++ [(q.2, (qs.length : Int) + 1)] := by
  unfold kvO
  rw [List.zipIdx_append, List.map_append]
  simp
theorem kvO_keys (qs : List (Int × Int)) : (kvO qs).map (·.1) = qs.map (·.2) := by
  unfold kvO
  rw [List.map_map]
  apply List.ext_getElem?
  intro j
  rw [List.getElem?_map, List.getElem?_map, List.getElem?_zipIdx]
  cases qs[j]? <;> rfl
theorem valP_none {k : Int} : ∀ {kvs : List (Int × Int)}, k ∉ kvs.map (·.1) → valP kvs k = none := fun {kvs} h => by
  unfold valP
  rw [List.find?_eq_none.mpr]
  · rfl
  · intro q hq z
    exact h (List.mem_map.mpr ⟨q, hq, of_decide_eq_true z⟩)
theorem valP_mem {k v : Int} : ∀ {kvs : List (Int × Int)}, (kvs.map (·.1)).Nodup → (k, v) ∈ kvs → valP kvs k = some v
  | q :: kvs, h, hm => by
    rw [List.map_cons, List.nodup_cons] at h
    unfold valP
    rw [List.find?_cons]
    rcases List.mem_cons.mp hm with rfl | hm
    · rw [decide_eq_true rfl]
      rfl
    · rw [decide_eq_false fun e => h.1 (by rw [e]; exact List.mem_map.mpr ⟨_, hm, rfl⟩)]
      exact valP_mem h.2 hm
theorem kvO_mem {qs : List (Int × Int)} {r : Nat} {q : Int × Int} (h : qs[r]? = some q) : (q.2, (r : Int) + 1) ∈ kvO qs := by
  refine List.mem_map.mpr ⟨(q, r), List.mem_of_getElem? (i := r) ?_, rfl⟩
  rw [List.getElem?_zipIdx, h]
  simp
theorem dP_got {w : List (Int × Int)} {i : Nat} {d : PyData} (h : (w.map dP)[i]? = some d) : ∃ x, w[i]? = some x ∧ d = dP x := by
  rw [List.getElem?_map] at h
  cases e : w[i]? with
  | none => rw [e] at h; cases h
  | some x => rw [e] at h; cases h; exact ⟨x, rfl, rfl⟩
theorem enum_prs (w : List Int) : (enumD (w.map PyData.int)).map (fun d => match d with | .tuple [.int i, .int x] => dP (x, i) | _ => .none) = (WS.prs w).map dP := by
  apply List.ext_getElem?
  intro j
  unfold enumD WS.prs
  rw [List.getElem?_map, List.getElem?_map, List.getElem?_map, List.getElem?_map, List.getElem?_zipIdx, List.getElem?_zipIdx, List.getElem?_map]
  cases w[j]? <;> rfl
section
variable {P : Program} {w : World} {K : PySem.W.Frag} {mg : Str → Option Value} {base : Heap}
abbrev s_standing_of : Stmt := topS 21
theorem c_standing_of : FnScope ["word", "place", "letter", "ranked", "ranks", "rank"] ["word"] (defScope s_standing_of) := ⟨rfl, rfl, rfl, by decide +kernel, rfl, by decide +kernel, by decide +kernel⟩
def S_std (ds : List PyData) (r : Rt) : Prop := ∃ w : List Int, Wd w ∧ ds = [dW w] ∧ r = .dat (dW (WS.std w))
theorem f_standing_of (B : Bi mg) (T : Tx K mg "standing_of" s_standing_of) : Df P w K mg base "standing_of" 1 ["word"] (spR K 1 S_std) := by
  refine dfR T c_standing_of rfl (fun _ _ _ _ _ _ us hl => match us, hl with | [_], _ => rfl) fun f cdv A outer s H E ds r hr hS => ?_
  obtain ⟨w, hw, rfl, rfl⟩ := hS
  have hl := hw.1
  refine sds_cons (sd_setF c_standing_of.nd (i := 3) rfl (by exact Or.inl rfl) (ef_srtP (ps := WS.prs w) (by rfl) B.sorted b_sorted (ar_one (er_fresh (DF.to (df_map (A := g2 (gN 1) (gN 2)) (own := [("place", 1), ("letter", 2)]) (fun d => match d with | .tuple [.int i, .int x] => dP (x, i) | _ => .none) rfl c_standing_of.nd (di_enumT (by rfl) B.enumerate (de_var 0)) (blkOk_by (by rfl))
    (by rw [enumD_len, dW_len]; omega) (fun s H C cl fp => eg_two rfl (eg_name c_standing_of.nd rfl (by exact Or.inl rfl) (by decide)) (eg_name c_standing_of.nd rfl (by exact Or.inl rfl) (by decide))) (fun d hd => ?_)) (enum_prs w))))) fun es hes => ?_)
  · obtain ⟨j, hj⟩ := List.getElem?_of_mem hd
    obtain ⟨e, he, rfl⟩ := enumD_got hj
    obtain ⟨o, ho, rfl⟩ := dW_got he
    exact ⟨_, rfl, fun s H C cl fp => de_tup (da_cons (de_var 2) (da_cons (de_var 1) da_nil)) (le5 rfl)⟩
  obtain ⟨qs, rfl, hp, hso⟩ := hes
  have nd2 : (qs.map (·.2)).Nodup := (hp.map (·.2)).nodup_iff.mpr (WS.prs_nodup w)
  have ql : qs.length = w.length := by rw [hp.length_eq]; unfold WS.prs; rw [List.length_map, List.length_zipIdx]
  refine sds_cons (sd_dnew c_standing_of.nd (i := 4) rfl (by exact Or.inr rfl) fun pa => ?_)
  refine sds_cons (sd_forG (A := g2 (gN 5) (g2 (gN 2) (gN 1))) (js := [5, 2, 1]) (fun ds i δ => ∃ s1 s2 s5, δ = [.dat (dW w), s1, s2, .un, sDic pa (kvO (qs.take i)), s5]) PassesOwn.never rfl (fun _ _ _ r => r.drop 3) (di_enumO 3 (by rfl) B.enumerate rfl (by exact Or.inl rfl) rfl)
    (eg_two rfl (eg_name c_standing_of.nd rfl (by exact Or.inl rfl) (by decide)) (eg_two rfl (eg_name c_standing_of.nd rfl (by exact Or.inl rfl) (by decide)) (eg_name c_standing_of.nd rfl (by exact Or.inl rfl) (by decide)))) (fun ds hd => ⟨_, _, _, rfl⟩) (fun ds i d δ1 hd hi h1 => ?_) fun ds δ1 hd h1 => ?_)
  · subst hd
    obtain ⟨s1, s2, s5, rfl⟩ := h1
    obtain ⟨e, he, rfl⟩ := enumD_got hi
    obtain ⟨q, hq, rfl⟩ := dP_got he
    obtain ⟨hiq, eq⟩ := List.getElem?_eq_some_iff.mp hq
    have htk : qs.take (i + 1) = qs.take i ++ [q] := by rw [List.take_add_one, hq]; rfl
    have tl : (qs.take i).length = i := by rw [List.length_take]; omega
    have hnk : q.2 ∉ (kvO (qs.take i)).map (·.1) := by
      rw [kvO_keys]
      have : ((qs.take (i + 1)).map (·.2)).Nodup := List.Nodup.sublist ((List.take_sublist _ _).map _) nd2
      rw [htk, List.map_append, List.nodup_append] at this
      intro z
      exact this.2.2 _ z q.2 List.mem_cons_self rfl
    refine ⟨_, rfl, sds_one (sd_dput (i := 4) (kvs := kvO (qs.take i)) (k := q.2) (v := (i : Int) + 1) (pa := pa) (u1 hr) rfl (by exact Or.inr (Or.inl rfl)) rfl (de_var 1) (de_add (de_var 5) de_int) (valP_none hnk) (by unfold kvO; rw [List.length_map, List.length_zipIdx, tl]; omega) (fun _ _ => rfl) ⟨.dat (.int q.2), .dat (.int q.1), .dat (.int (i : Int)), ?_⟩)⟩
    rw [htk, kvO_snoc, tl]
    rfl
  · subst hd
    obtain ⟨s1, s2, s5, rfl⟩ := h1
    rw [enumD_len, List.length_map, List.take_length]
    refine sds_one (sd_retD (DE.to (de_tupR (by rfl) B.tuple b_tuple (ar_one (er_fresh (df_map (A := gN 1) (own := [("place", 1)]) (fun d => match d with | .int i => .int ((WS.std w).getD i.toNat 0) | _ => .none) rfl c_standing_of.nd (di_range1 (by rfl) B.range (da_cons (de_len (by rfl) B.len b_len (da_cons (de_var 0) da_nil)) da_nil) (by rw [dW_len]; omega)) (blkOk_by (by rfl))
      (by rw [rangeD_len, dW_len]; omega) (fun s H C cl fp => eg_name c_standing_of.nd rfl (by exact Or.inl rfl) (by decide)) (fun d hd => ?_))))) ?_) rfl)
    · obtain ⟨i, hi, rfl⟩ := List.mem_map.mp hd
      rw [dW_len, Int.toNat_natCast] at hi
      have hi := List.mem_range.mp hi
      rw [Int.zero_add]
      have hx := List.getElem?_eq_getElem hi
      have hq := hp.mem_iff.mpr (WS.prs_get hx)
      obtain ⟨r, hr2⟩ := List.getElem?_of_mem hq
      have hsr := WS.std_rank hp hso hx hr2
      have hv := valP_mem (by rw [kvO_keys]; exact nd2) (kvO_mem hr2)
      have e : (WS.std w).getD (Int.toNat (i : Int)) 0 = (r : Int) + 1 := by
        rw [Int.toNat_natCast, List.getD_eq_getElem?_getD, hsr]
        rfl
      refine ⟨_, rfl, fun s H C cl fp => ?_⟩
      show DE _ _ _ _ (.int ((WS.std w).getD (Int.toNat (i : Int)) 0))
      rw [e]
      exact de_dget 4 (u1 hr) (de_var 1) hv (fun _ _ => rfl)
    · show PyData.tuple _ = PyData.tuple _
      congr 1
      unfold rangeD
      rw [List.map_map, dW_len, Int.toNat_natCast]
      apply List.ext_getElem?
      intro j
      rw [List.getElem?_map, List.getElem?_map]
      have sl : (WS.std w).length = w.length := WS.stdAux_len w []
      by_cases hj : j < w.length
      · rw [List.getElem?_range hj, List.getElem?_eq_getElem (by omega)]
        show some (PyData.int ((WS.std w).getD (Int.toNat (0 + (j : Int))) 0)) = some (PyData.int _)
        rw [Int.zero_add, Int.toNat_natCast, List.getD_eq_getElem?_getD, List.getElem?_eq_getElem (by omega)]
        rfl
      · rw [List.getElem?_eq_none (by rw [List.length_range]; omega), List.getElem?_eq_none (by omega)]
        rfl
abbrev s_standing : Stmt := topS 22
theorem c_standing : FnScope ["word"] ["word"] (defScope s_standing) := ⟨rfl, rfl, rfl, by decide +kernel, rfl, by decide +kernel, by decide +kernel⟩
theorem f_standing (D0 : DWord P w K mg base) (D1 : Df P w K mg base "standing_of" 1 ["word"] (spR K 1 S_std)) (T : Tx K mg "standing" s_standing) : Df P w K mg base "standing" 6 ["word"] (spR K 1 S_std) := by
  refine dfR T c_standing rfl (fun _ _ _ _ _ _ us hl => match us, hl with | [_], _ => rfl) fun f cdv A outer s H E ds r hr hS => ?_
  obtain ⟨w, hw, rfl, rfl⟩ := hS
  exact sds_cons (sd_drop (de_cd D0 (hr.mono (by omega)) (by rfl) (da_cons (de_var 0) da_nil) rfl ⟨w, hw, rfl, rfl⟩) fun d _ => sds_one (sd_retD (de_cd D1 (hr.mono (by omega)) (by rfl) (da_cons (de_var 0) da_nil) rfl ⟨w, hw, rfl, rfl⟩) rfl))
end
end WL

set_option maxRecDepth 100000
set_option maxHeartbeats 4000000
namespace WL
open PySem PySem.Spec PyProof.Rows L2
/-! ### a list of lists: the plain facts -/
theorem zip_got {α β : Type} {l : List α} {m : List β} {x : α × β} (h : x ∈ l.zip m) : ∃ i : Nat, l[i]? = some x.1 ∧ m[i]? = some x.2 := by
  obtain ⟨i, hi⟩ := List.getElem?_of_mem h
  rw [List.getElem?_zip_eq_some] at hi
  exact ⟨i, hi⟩
theorem zip_mem {α β : Type} {l : List α} {m : List β} {i : Nat} {a : α} {b : β} (h1 : l[i]? = some a) (h2 : m[i]? = some b) : (a, b) ∈ l.zip m :=
  List.mem_of_getElem? (i := i) (List.getElem?_zip_eq_some.mpr ⟨h1, h2⟩)
theorem row_got {T : List (List Int)} {i : Nat} {o : HO} (h : (T.map fun R => HO.lst (R.map V.int))[i]? = some o) : ∃ R, T[i]? = some R ∧ o = .lst (R.map V.int) := by
  rw [List.getElem?_map] at h
  cases e : T[i]? with
  | none => rw [e] at h; cases h
  | some R => rw [e] at h; cases h; exact ⟨R, rfl, rfl⟩
theorem row_get {T : List (List Int)} {i : Nat} {R : List Int} (h : T[i]? = some R) : (T.map fun R => HO.lst (R.map V.int))[i]? = some (.lst (R.map V.int)) := by rw [List.getElem?_map, h]; rfl
theorem nodup_at {α : Type} {l : List α} (h : l.Nodup) {i j : Nat} {a : α} (h1 : l[i]? = some a) (h2 : l[j]? = some a) : i = j := by
  obtain ⟨l1, e1⟩ := List.getElem?_eq_some_iff.mp h1
  obtain ⟨l2, e2⟩ := List.getElem?_eq_some_iff.mp h2
  have key := List.pairwise_iff_getElem.mp h
  rcases Nat.lt_trichotomy i j with g | g | g
  · exact absurd (e1.trans e2.symm) (key i j l1 l2 g)
  · exact g
  · exact absurd (e2.trans e1.symm) (key j i l2 l1 g)
section
variable {p : Addr} {qs : List Addr} {T : List (List Int)} {j : Nat} {R R' : List Int}
theorem MOk.row (M : MOk p qs T) (h : T[j]? = some R) : ∃ q, qs[j]? = some q ∧ (q, HO.lst (R.map V.int)) ∈ mfr p qs T ∧ q ≠ p := by
  have hl : j < qs.length := by rw [M.len]; exact (List.getElem?_eq_some_iff.mp h).1
  refine ⟨qs[j], List.getElem?_eq_getElem hl, List.mem_cons_of_mem _ (zip_mem (List.getElem?_eq_getElem hl) (row_get h)), fun e => ?_⟩
  have := (List.nodup_cons.mp M.nd).1
  rw [← e] at this
  exact this (List.getElem_mem hl)
theorem MOk.set (M : MOk p qs T) : MOk p qs (T.set j R') := ⟨M.nd, by rw [List.length_set]; exact M.len⟩
theorem mfr_mut (p : Addr) {x : Addr × HO} (h : x ∈ mfr p qs T) : mutO x.2 = true := by
  rcases List.mem_cons.mp h with rfl | h
  · rfl
  · obtain ⟨i, h1, h2⟩ := zip_got h
    obtain ⟨R, _, e⟩ := row_got h2
    rw [e]
    rfl
theorem mfr_set (M : MOk p qs T) {q : Addr} (hq : qs[j]? = some q) : ∀ x ∈ mfr p qs (T.set j R'), x = (q, .lst (R'.map V.int)) ∨ (x ∈ mfr p qs T ∧ x.1 ≠ q) := fun x hx => by
  obtain ⟨n1, n2⟩ := List.nodup_cons.mp M.nd
  rcases List.mem_cons.mp hx with rfl | hx
  · exact .inr ⟨List.mem_cons_self, fun e => n1 (by have e : p = q := e; rw [e]; exact List.mem_of_getElem? hq)⟩
  · obtain ⟨i, h1, h2⟩ := zip_got hx
    obtain ⟨R1, h3, e⟩ := row_got h2
    by_cases hij : j = i
    · subst hij
      have : R1 = R' := by
        have hl := (List.getElem?_eq_some_iff.mp h3).1
        rw [List.length_set] at hl
        rw [List.getElem?_set_self hl] at h3
        exact (Option.some.inj h3).symm
      subst this
      rw [hq] at h1
      exact .inl (Prod.ext (Option.some.inj h1).symm e)
    · rw [List.getElem?_set_ne hij] at h3
      refine .inr ⟨List.mem_cons_of_mem _ ?_, fun e2 => ?_⟩
      · have := zip_mem h1 (row_get h3)
        rw [← e] at this
        exact this
      · rw [e2] at h1
        exact hij (nodup_at n2 hq h1)
end

section
variable {X : Cx} {c : Option Addr} {δ : List Slot} {D : DEnds} {tg iter : Expr} {pos p pos' : Pos} {ds : List PyData} {x : Str}
/-- name = [elt for target in iter if test] on one line, a local name: f the test, g the element -/
theorem sd_setLcD {i : Nat} {elt : Expr} {ifs : List Expr} {scope : Scope} {own : List (Str × Nat)} {A : TGD} (f : PyData → Bool) (g : PyData → PyData) (hc : X.calm = true) (hN : X.N.Nodup) (hy : X.N[i]? = some x) (hyl : X.env.scope.names.lookup x = some .local) (hk : X.env.scope.kind = .function)
    (hi : DI X c tg iter δ ds) (ok : BlkOk X.N X.env.scope scope own) (hz : ds.length ≤ 100000)
    (hg : ∀ (s : Shared) (H : Hp) (C : Addr) (cl : List (Str × Addr)) (fp : List Addr), PG (X.blk s H scope (compEnvC scope cl C X.env) fp) tg (tG c X.K A (own.map (·.2))))
    (hb : ∀ d ∈ ds, ∃ δ', A d (wipeD δ (own.map (·.2))) = some δ' ∧ (∀ (s : Shared) (H : Hp) (C : Addr) (cl : List (Str × Addr)) (fp : List Addr), PTs (X.blk s H scope (compEnvC scope cl C X.env) fp) ifs (tT c X.K δ' (Eq (f d)))) ∧
      (f d = true → ∀ (s : Shared) (H : Hp) (C : Addr) (cl : List (Str × Addr)) (fp : List Addr), DE (X.blk s H scope (compEnvC scope cl C X.env) fp) c elt δ' (g d)))
    (h : D.nx (δ.set i (.own ((ds.filter f).map g)))) (hl : (pos'.line == pos.line) = true := by rfl) (ha : (scope.names.any fun (n, k) => n == x && (k == .local || k == .cell)) = false := by rfl) (hs : ∀ x, foldedSetIterable iter X.env x = pure x := by intro _; rfl) :
    SD X c (.Assign [.Name x pos'] (.ListComp elt [⟨tg, iter, ifs, 0⟩] scope pos) p) δ D :=
  sd_setLc (f := f) (Rl := fun d e => g d = e) hc hN hy hyl (sw_true hk hyl hl ha) hi ok hg (fun ds' k => by subst k; exact ⟨hz, fun d m => ⟨hb d m⟩⟩) (fun ds' es k q => by
    subst k
    rw [paired_map q]
    exact h) hs
end
/-! ### rules -/
section
variable {X : Cx} {c : Option Addr} {δ : List Slot} {D : DEnds} {a b e : Expr} {es : List Expr} {pos pos' p2 pn ps tpos : Pos} {d : PyData} {ds : List PyData} {x y z : Str} {i j k f : Nat} {m : Bool} {pa : Addr} {qs : List Addr} {T : List (List Int)} {R : List Int}
theorem rep_mat {K : PySem.W.Frag} {H0 H : Hp} {σ : L2.St} (r : Rep c K H0 H σ δ) (hδ : δ[i]? = some (sMat m pa qs T)) : σ[i]? = some (some (.ref pa)) ∧ H pa = some (.lst (qs.map V.ref)) ∧ c ≠ some pa ∧ ∀ x ∈ mfr pa qs T, FrOk c H0 H m x := by
  obtain ⟨g1, g2⟩ := r.at_ i _ hδ
  have h := g2 _ List.mem_cons_self
  exact ⟨g1, h.at_, h.nc, g2⟩
/-- x[j], a row -/
theorem dr_row (i : Nat) (M : MOk pa qs T) (hR : T[j]? = some R) (ha : DE X c a δ (.int (j : Int))) (hN : X.N[i]? = some x := by rfl) (hv : Vis X.env.scope x := by first | exact Or.inl rfl | exact Or.inr (Or.inl rfl) | exact Or.inr (Or.inr rfl)) (hδ : δ[i]? = some (sMat m pa qs T) := by rfl)
    (hs : PlainIx a := by exact fun _ _ => rfl) (hd : (x == ("__debug__" : Str)) = false := by decide) (hcd : (x == ("__classdict__" : Str)) = false := by decide) : DR X c (.Subscript (.Name x pn) a pos) δ (R.map .int) :=
  pe_imp (pe_ix ix_list (pe_var hN hv hd hcd) ha hs) fun σ H Q q => by
    obtain ⟨⟨H0, r⟩, q⟩ := q
    obtain ⟨g1, g2, g3, g4⟩ := rep_mat r hδ
    refine ⟨_, g1, ⟨H0, r⟩, fun w d2 H2 x2 t2 e2 => ?_⟩
    subst e2
    cases t2
    obtain ⟨g1, g2, g3, g4⟩ := rep_mat (r.mono x2) hδ
    obtain ⟨q1, h1, h2, h3⟩ := M.row hR
    have k := g4 _ h2
    refine ⟨_, _, (j : Int), .ref q1, rfl, rfl, SqL.of g2, atI_nat (by rw [List.getElem?_map, h1]; rfl), q q1 _ _ H2 k.nc x2 (SqL.of k.at_) (TpAll.of_ints R) rfl⟩
/-- len(x) -/
theorem de_lenM (i : Nat) {p : Pos} {l : Str} (M : MOk pa qs T) (hg : Gl X l) (hm : X.mg l = none) (hv : bootBuiltins l = some (.builtin "len")) (hN : X.N[i]? = some x := by rfl) (hvx : Vis X.env.scope x := by first | exact Or.inl rfl | exact Or.inr (Or.inl rfl) | exact Or.inr (Or.inr rfl)) (hδ : δ[i]? = some (sMat m pa qs T) := by rfl)
    (hn : l ≠ "__name__" := by decide) (hdb : (l == ("__debug__" : Str)) = false := by decide) (hd : (x == ("__debug__" : Str)) = false := by decide) (hcd : (x == ("__classdict__" : Str)) = false := by decide)
    (he : starEach [Expr.Name x pn] X.env = (false, eval (.Name x pn) X.env) :: starEach [] X.env := by rfl) (hpl : (backTo pos (starEach [] X.env)).any (·.1) = false := by rfl) :
    DE X c (.Call (.Name l p) [.Name x pn] [] pos) δ (.int T.length) := pe_imp (pe_callB call_len_seq hg hm hv (pa_cons (pe_var hN hvx hd hcd) pa_nil he) hn hdb he hpl) fun σ H Q q => by
  obtain ⟨⟨H0, r⟩, q⟩ := q
  obtain ⟨g1, g2, g3, g4⟩ := rep_mat r hδ
  refine ⟨_, g1, pa, _, rfl, .inl (SqL.of g2), ?_⟩
  rw [List.length_map, M.len]
  exact q _ _ H ExC.refl (.int _) rfl
/-- x[j].append(e) -/
theorem sd_appendM (i : Nat) {apos cpos : Pos} {v : Int} (M : MOk pa qs T) (hR : T[j]? = some R) (hl : R.length ≤ 1000) (ha : DE X c a δ (.int (j : Int))) (hb : DE X c e δ (.int v)) (h : D.nx (δ.set i (sMat true pa qs (T.set j (R ++ [v]))))) (hN : X.N[i]? = some x := by rfl) (hv : Vis X.env.scope x := by first | exact Or.inl rfl | exact Or.inr (Or.inl rfl) | exact Or.inr (Or.inr rfl)) (hδ : δ[i]? = some (sMat true pa qs T) := by rfl)
    (hps : PlainIx a := by exact fun _ _ => rfl) (hd : (x == ("__debug__" : Str)) = false := by decide) (hcd : (x == ("__classdict__" : Str)) = false := by decide)
    (hbase : attributeBase (.Subscript (.Name x pn) a ps) "append" X.env (eval (.Subscript (.Name x pn) a ps) X.env) = eval (.Subscript (.Name x pn) a ps) X.env := by rfl)
    (hfew : ((backTo cpos (starEach [e] X.env)).all (fun x => !x.1) && (backToKw cpos (keywordEach [] X.env)).all (fun x => x.1.isSome)
      && decide (([e] : List Expr).length + ([] : List Keyword).length + (if ([] : List Keyword).isEmpty then 0 else 1) < 30)) = true := by rfl)
    (hline : (apos.endLine == cpos.line) = true := by rfl) (hs : starEach [e] X.env = (false, eval e X.env) :: starEach [] X.env := by rfl) (hplain : (backTo cpos (starEach [] X.env)).any (·.1) = false := by rfl)
    (hsw : swapsWith (.Call (.Attribute (.Subscript (.Name x pn) a ps) "append" apos) [e] [] cpos) none pos.line X.env = pure false := by rfl) :
    SD X c (.Expr (.Call (.Attribute (.Subscript (.Name x pn) a ps) "append" apos) [e] [] cpos) pos) δ D :=
  ps_imp (ps_expr (pe_bm PySem.F.plainAttrs_list PySem.F.slot_list_append PySem.F.type_list_append mt_append (pe_ix ix_list (pe_var hN hv hd hcd) ha hps) (da_cons hb da_nil hs) hbase hfew hline hs hplain) hsw) fun D' σ H ⟨H0, r, kk⟩ => by
    obtain ⟨g1, g2, g3, g4⟩ := rep_mat r hδ
    refine ⟨_, g1, ⟨H0, r⟩, fun w d2 H2 x2 t2 e2 => ?_⟩
    subst e2
    cases t2
    have r2 := r.mono x2
    obtain ⟨g1, g2, g3, g4⟩ := rep_mat r2 hδ
    obtain ⟨q1, h1, h2, h3⟩ := M.row hR
    have k := g4 _ h2
    refine ⟨_, _, (j : Int), .ref q1, rfl, rfl, SqL.of g2, atI_nat (by rw [List.getElem?_map, h1]; rfl), .inl ⟨rfl, _, SqL.of k.at_⟩, ⟨H0, r2⟩, fun us es H3 x3 t3 e3 => ?_⟩
    subst e3
    have r3 := r2.mono x3
    obtain ⟨g1, g2, g3, g4⟩ := rep_mat r3 hδ
    have k := g4 _ h2
    cases t3 with
    | cons t4 t5 =>
      cases t5
      cases t4
      refine ⟨q1, _, _, rfl, rfl, k.at_, Nat.lt_of_le_of_lt (show (R.map V.int).length ≤ 1000 by rw [List.length_map]; exact hl) (by decide), kk.nx _ _ _ (r3.mutZ hδ (q := q1) (o := .lst (R.map V.int ++ [.int v])) (List.mem_map.mpr ⟨_, h2, rfl⟩) rfl ?_) h⟩
      have := mfr_set (R' := R ++ [v]) M h1
      rw [List.map_append] at this
      exact this
/-- x[j][l], y = v, u -/
theorem sd_swapM (i k : Nat) {l : Nat} {v u : Int} {pt : Pos} {kt : Nat} (hc : X.calm = true) (hNd : X.N.Nodup) (M : MOk pa qs T) (hR : T[j]? = some R) (hl : l < R.length) (hik : i ≠ k) (he : DE X c e δ (.tuple [.int v, .int u])) (ha : DE X c a δ (.int (j : Int))) (hb : DE X c b δ (.int (l : Int))) (h : D.nx ((δ.set i (sMat true pa qs (T.set j (R.set l v)))).set k (.dat (.int u))))
    (hy : X.N[k]? = some y) (hyl : Loc X.env.scope y) (hN : X.N[i]? = some x := by rfl) (hv : Vis X.env.scope x := by first | exact Or.inl rfl | exact Or.inr (Or.inl rfl) | exact Or.inr (Or.inr rfl)) (hδ : δ[i]? = some (sMat true pa qs T) := by rfl)
    (hps : PlainIx a := by exact fun _ _ => rfl) (hd : (x == ("__debug__" : Str)) = false := by decide) (hcd : (x == ("__classdict__" : Str)) = false := by decide)
    (hasn : ∀ v, assign (.Subscript (.Subscript (.Name x pn) a ps) b pos') X.env v = (do
      let ov ← holding [v] (eval (.Subscript (.Name x pn) a ps) X.env)
      let iv ← holding [v, ov] (eval b X.env)
      standAt pos'
      holding [v, ov, iv] (setItem ov iv v)
      release [v, ov, iv] []) := by intro _; rfl)
    (hs1 : (assignEach [Expr.Subscript (.Subscript (.Name x pn) a ps) b pos', .Name y p2] X.env).map (·.2) = assign (.Subscript (.Subscript (.Name x pn) a ps) b pos') X.env :: (assignEach [Expr.Name y p2] X.env).map (·.2) := by rfl) (hs2 : (assignEach [Expr.Name y p2] X.env).map (·.2) = assign (.Name y p2) X.env :: (assignEach [] X.env).map (·.2) := by rfl)
    (hn : (assignEach [Expr.Subscript (.Subscript (.Name x pn) a ps) b pos', .Name y p2] X.env).length = 2 := by rfl) (hst : (assignEach [Expr.Subscript (.Subscript (.Name x pn) a ps) b pos', .Name y p2] X.env).findIdx? (·.1) = none := by rfl)
    (hs : swapsWithSole [Expr.Tuple [.Subscript (.Subscript (.Name x pn) a ps) b pos', .Name y p2] kt pt] e pos.line X.env = pure false := by rfl) (hw : swappedStores [Expr.Tuple [.Subscript (.Subscript (.Name x pn) a ps) b pos', .Name y p2] kt pt] e X.env = pure none := by rfl)
    (h1 : (assignEach [Expr.Tuple [.Subscript (.Subscript (.Name x pn) a ps) b pos', .Name y p2] kt pt] X.env).map (·.2) = [assign (.Tuple [.Subscript (.Subscript (.Name x pn) a ps) b pos', .Name y p2] kt pt) X.env] := by rfl) (hf : X.fn y = true ∨ X.env.scope.names.lookup y = some .local := by first | exact .inl rfl | exact .inr rfl | assumption) :
    SD X c (.Assign [.Tuple [.Subscript (.Subscript (.Name x pn) a ps) b pos', .Name y p2] kt pt] e pos) δ D :=
  ps_imp (ps_asg he (pg_tup hc (pgs_cons (pg_sub (pe_ix ix_list (pe_var hN hv hd hcd) ha hps) hb set_list hasn) (pgs_cons (pg_name hNd hy hyl hf) pgs_nil hs2) hs1) hn hst) hs hw h1) fun D' σ H ⟨H0, r, kk⟩ => by
    refine ⟨⟨H0, r⟩, fun w d1 H1 x1 t1 e1 => ?_⟩
    subst e1
    cases t1 with
    | tup s1 a1 =>
      cases a1 with
      | cons b1 b2 =>
        cases b2 with
        | cons b2 b3 =>
          cases b3
          cases b1
          cases b2
          have r1 := r.mono x1
          obtain ⟨g1, g2, g3, g4⟩ := rep_mat r1 hδ
          refine ⟨_, _, rfl, s1, rfl, _, _, rfl, ?_⟩
          refine ⟨_, g1, ⟨H0, r1⟩, fun w d2 H2 x2 t2 e2 => ?_⟩
          subst e2
          cases t2
          have r2 := r1.mono x2
          obtain ⟨g1, g2, g3, g4⟩ := rep_mat r2 hδ
          obtain ⟨q1, k1, k2, k3⟩ := M.row hR
          refine ⟨_, _, (j : Int), .ref q1, rfl, rfl, SqL.of g2, atI_nat (by rw [List.getElem?_map, k1]; rfl), ⟨H0, r2⟩, fun w d3 H3 x3 t3 e3 => ?_⟩
          subst e3
          cases t3
          have r3 := r2.mono x3
          obtain ⟨g1, g2, g3, g4⟩ := rep_mat r3 hδ
          have kq := g4 _ k2
          have hix : ixN (R.map V.int).length (l : Int) = some l := by
            unfold ixN
            rw [List.length_map, if_pos (by omega), if_pos (by omega)]
            rfl
          refine ⟨q1, _, (l : Int), l, rfl, rfl, kq.at_, hix, _, _, rfl, rfl, ?_⟩
          have r4 := r3.mutZ hδ (q := q1) (o := .lst ((R.map V.int).set l (.int v))) (fr' := mfr pa qs (T.set j (R.set l v))) (List.mem_map.mpr ⟨_, k2, rfl⟩) rfl (by
            have := mfr_set (R' := R.set l v) M k1
            rw [List.map_set] at this
            exact this)
          exact kk.nx _ _ _ (r4.setD k (.int u)) h
/-- x = [list(y) for y in z] -/
theorem sd_copyM {scope : Scope} {own : List (Str × Nat)} {pt p : Pos} (f i j : Nat) (hc : X.calm = true) (hN : X.N.Nodup) (hi : X.N[i]? = some x) (hx : Loc X.env.scope x) (hz : X.N[f]? = some z) (hzv : Vis X.env.scope z) (hδ : δ[f]? = some (sMat m pa qs T)) (M : MOk pa qs T) (hl : T.length ≤ 1000) (ok : BlkOk X.N X.env.scope scope own) (hj : j ∈ own.map (·.2)) (hjl : j < δ.length)
    (hg : ∀ (s : Shared) (H : Hp) (C : Addr) (cl : List (Str × Addr)) (fp : List Addr), PG (X.blk s H scope (compEnvC scope cl C X.env) fp) (.Name y pt) (gName j)) {ls : Str} {pl pc pe : Pos}
    (he : ∀ (s : Shared) (H : Hp) (C : Addr) (cl : List (Str × Addr)) (fp : List Addr), PE (X.blk s H scope (compEnvC scope cl C X.env) fp) (.Call (.Name ls pl) [.Name y pe] [] pc) (tCB (fun xs H Q => ∃ p ys, xs = [V.ref p] ∧ (SqL X.K H p ys ∨ SqT X.K H p ys) ∧ ∀ l, H l = none → Q (.ref l) (upd H l (.lst ys))) (tCons (tVar j) tNil)))
    (h : ∀ p2 qs2, MOk p2 qs2 T → D.nx (δ.set i (sMat true p2 qs2 T)))
    (hd : (z == ("__debug__" : Str)) = false := by decide) (hcd : (z == ("__classdict__" : Str)) = false := by decide) (hsi : ∀ x, foldedSetIterable (.Name z pn) X.env x = pure x := by intro _; rfl)
    (hsw : swapsWith (.ListComp (.Call (.Name ls pl) [.Name y pe] [] pc) [⟨.Name y pt, .Name z pn, [], 0⟩] scope p) (some (.Name x pos')) pos.line X.env = pure false := by rfl) (hf : X.fn x = true ∨ X.env.scope.names.lookup x = some .local := by first | exact .inl rfl | exact .inr rfl | assumption) :
    SD X c (.Assign [.Name x pos'] (.ListComp (.Call (.Name ls pl) [.Name y pe] [] pc) [⟨.Name y pt, .Name z pn, [], 0⟩] scope p) pos) δ D :=
  ps_imp (ps_set hN hi hx (pe_lc hc hN (pi_list (pe_var hz hzv hd hcd)) ok hg (fun _ _ _ _ _ => pts_nil) he hsi) hsw hf) fun D' σ H ⟨H0, r, kk⟩ => by
    obtain ⟨g1, g2, g3, g4⟩ := rep_mat r hδ
    refine ⟨_, g1, pa, rfl, ⟨_, SqL.of g2⟩, fun Dn hD => ?_⟩
    refine ⟨fun n w H2 => w = T.length - n ∧ n ≤ T.length ∧ Same H H2 ∧ ∃ qs2 : List Addr, H2 Dn = some (.lst (qs2.map V.ref)) ∧ qs2.length = n ∧ (Dn :: qs2).Nodup ∧ ∀ x ∈ qs2.zip ((T.take n).map fun R => HO.lst (R.map V.int)), H x.1 = none ∧ H2 x.1 = some x.2,
      ⟨T.length, rfl, Nat.zero_le _, same_new hD, [], upd_same, rfl, List.nodup_cons.mpr ⟨List.not_mem_nil, List.nodup_nil⟩, fun x hx => nomatch hx⟩, ?_⟩
    rintro n w H2 ⟨rfl, hn, sm, qs2, y1, y2, y3, y4⟩
    have hp2 : SqL X.K H2 pa (qs.map V.ref) := SqL.of (sm _ _ g2)
    have cs : n = T.length ∨ n < T.length := by omega
    rcases cs with e | hlt
    · subst e
      rw [List.take_length] at y4
      refine .inl ⟨⟨_, hp2, by rw [List.length_map, M.len]; exact Nat.le_refl _⟩, kk.nx _ _ _ (r.newZ (ExC.of sm) i (fr := mfr Dn qs2 T) fun x hx => ?_) (h Dn qs2 ⟨y3, y2⟩)⟩
      refine ⟨?_, ?_, mfr_mut Dn hx⟩
      · rcases List.mem_cons.mp hx with rfl | hx
        · exact hD
        · exact (y4 x hx).1
      · rcases List.mem_cons.mp hx with rfl | hx
        · exact y1
        · exact (y4 x hx).2
    · have hR : T[n]? = some T[n] := List.getElem?_eq_getElem hlt
      obtain ⟨q1, k1, k2, k3⟩ := M.row hR
      have hq1 : (qs.map V.ref)[n]? = some (.ref q1) := by rw [List.getElem?_map, k1]; rfl
      refine .inr ⟨⟨_, _, hp2, hq1⟩, fun H3 => Same H H3 ∧ ∃ qs2 : List Addr, H3 Dn = some (.lst (qs2.map V.ref)) ∧ qs2.length = n + 1 ∧ (Dn :: qs2).Nodup ∧ ∀ x ∈ qs2.zip ((T.take (n + 1)).map fun R => HO.lst (R.map V.int)), H x.1 = none ∧ H3 x.1 = some x.2,
        fun H3 ⟨a1, a2⟩ => ⟨T.length - (n + 1), by omega, rfl, hlt, a1, a2⟩, fun v H3 yy => ?_⟩
      obtain ⟨rfl, yy⟩ := yy
      have hv : v = .ref q1 := Option.some.inj ((yy _ hp2).symm.trans hq1)
      subst hv
      have hjs : j < (wipe σ (own.map (·.2))).length := by rw [wipe_length, r.len]; exact hjl
      refine ⟨(wipe_set hj).trans wipe_wipe, ?_⟩
      dsimp only [tYes]
      rw [if_pos (rfl : true = true)]
      refine ⟨_, List.getElem?_set_self hjs, q1, _, rfl, .inl (SqL.of (sm _ _ (g4 _ k2).at_)), fun l hl => ?_⟩
      have nDl : Dn ≠ l := fun e => by rw [← e, y1] at hl; cases hl
      have hlH : H l = none := by
        cases q : H l with
        | none => rfl
        | some o => rw [sm _ _ q] at hl; cases hl
      refine ⟨qs2.map V.ref, by rw [upd_ne nDl]; exact y1, Nat.lt_of_le_of_lt (show (qs2.map V.ref).length ≤ 1000 by rw [List.length_map]; omega) (by decide), fun a o ha => ?_, qs2 ++ [l], ?_, ?_, ?_, fun x hx => ?_⟩
      · rw [upd_ne (show a ≠ Dn from fun e => by rw [e, hD] at ha; cases ha), upd_ne (show a ≠ l from fun e => by rw [e, hlH] at ha; cases ha)]
        exact sm a o ha
      · rw [upd_same, List.map_append]
        rfl
      · rw [List.length_append, y2]
        rfl
      · obtain ⟨n1, n2⟩ := List.nodup_cons.mp y3
        have nl : l ∉ qs2 := fun hm => by
          obtain ⟨i', hi'⟩ := List.getElem?_of_mem hm
          have hi2 : i' < n := by rw [← y2]; exact (List.getElem?_eq_some_iff.mp hi').1
          have ht : (T.take n)[i']? = some (T[i']'(by omega)) := by rw [List.getElem?_take, if_pos hi2]; exact List.getElem?_eq_getElem _
          have := (y4 _ (zip_mem hi' (row_get ht))).2
          rw [hl] at this
          cases this
        refine List.nodup_cons.mpr ⟨fun hm => ?_, ?_⟩
        · rcases List.mem_append.mp hm with hm | hm
          · exact n1 hm
          · exact nDl (by simpa using hm)
        · refine List.nodup_append.mpr ⟨n2, List.nodup_cons.mpr ⟨List.not_mem_nil, List.nodup_nil⟩, fun a ha b hb e => ?_⟩
          have : b = l := by simpa using hb
          subst this
          rw [e] at ha
          exact nl ha
      · rw [List.take_add_one, hR] at hx
        show H x.1 = none ∧ upd (upd _ l _) Dn _ x.1 = some x.2
        rw [Option.toList, List.map_append, List.zip_append (by rw [y2, List.length_map, List.length_take]; omega)] at hx
        rcases List.mem_append.mp hx with hx | hx
        · obtain ⟨h1, h2⟩ := y4 x hx
          refine ⟨h1, ?_⟩
          have n1 : x.1 ≠ Dn := fun e => by
            obtain ⟨i', hi', _⟩ := zip_got hx
            exact (List.nodup_cons.mp y3).1 (by rw [← e]; exact List.mem_of_getElem? hi')
          have n2 : x.1 ≠ l := fun e => by rw [e, hl] at h2; cases h2
          rw [upd_ne n1, upd_ne n2]
          exact h2
        · have : x = (l, .lst (T[n].map V.int)) := by simpa using hx
          subst this
          exact ⟨hlH, by rw [upd_ne (Ne.symm nDl), upd_same]⟩
/-- [tuple(y) for y in z] -/
theorem df_tuplesM {scope : Scope} {own : List (Str × Nat)} {pt p : Pos} (f j : Nat) (hc : X.calm = true) (hN : X.N.Nodup) (hz : X.N[f]? = some z) (hzv : Vis X.env.scope z) (hδ : δ[f]? = some (sMat m pa qs T)) (M : MOk pa qs T) (hl : T.length ≤ 1000) (ok : BlkOk X.N X.env.scope scope own) (hj : j ∈ own.map (·.2)) (hjl : j < δ.length)
    (hg : ∀ (s : Shared) (H : Hp) (C : Addr) (cl : List (Str × Addr)) (fp : List Addr), PG (X.blk s H scope (compEnvC scope cl C X.env) fp) (.Name y pt) (gName j)) {ls : Str} {pl pc pe : Pos}
    (he : ∀ (s : Shared) (H : Hp) (C : Addr) (cl : List (Str × Addr)) (fp : List Addr), PE (X.blk s H scope (compEnvC scope cl C X.env) fp) (.Call (.Name ls pl) [.Name y pe] [] pc) (tCB (fun xs H Q => ∃ p ys, xs = [V.ref p] ∧ ((SqL X.K H p ys ∧ ∀ l, H l = none → Q (.ref l) (upd H l (.tup ys))) ∨ (SqT X.K H p ys ∧ Q (.ref p) H))) (tCons (tVar j) tNil)))
    (hd : (z == ("__debug__" : Str)) = false := by decide) (hcd : (z == ("__classdict__" : Str)) = false := by decide) (hsi : ∀ x, foldedSetIterable (.Name z pn) X.env x = pure x := by intro _; rfl) :
    DF X c (.ListComp (.Call (.Name ls pl) [.Name y pe] [] pc) [⟨.Name y pt, .Name z pn, [], 0⟩] scope p) δ (T.map dW) :=
  pe_imp (pe_lc hc hN (pi_list (pe_var hz hzv hd hcd)) ok hg (fun _ _ _ _ _ => pts_nil) he hsi) fun σ H Q q => by
    obtain ⟨⟨H0, r⟩, q⟩ := q
    obtain ⟨g1, g2, g3, g4⟩ := rep_mat r hδ
    refine ⟨_, g1, pa, rfl, ⟨_, SqL.of g2⟩, fun Dn hD => ?_⟩
    refine ⟨fun n w H2 => w = T.length - n ∧ n ≤ T.length ∧ Same H H2 ∧ ∃ ws : List V, H2 Dn = some (.lst ws) ∧ TpAll X.K H2 ws ((T.take n).map dW),
      ⟨T.length, rfl, Nat.zero_le _, same_new hD, [], upd_same, .nil⟩, ?_⟩
    rintro n w H2 ⟨rfl, hn, sm, ws, y1, y2⟩
    have hp2 : SqL X.K H2 pa (qs.map V.ref) := SqL.of (sm _ _ g2)
    have cs : n = T.length ∨ n < T.length := by omega
    rcases cs with e | hlt
    · subst e
      rw [List.take_length] at y2
      exact .inl ⟨⟨_, hp2, by rw [List.length_map, M.len]; exact Nat.le_refl _⟩, q Dn ws _ H2 hD (ExC.of sm) y1 y2 rfl⟩
    · have hR : T[n]? = some T[n] := List.getElem?_eq_getElem hlt
      obtain ⟨q1, k1, k2, k3⟩ := M.row hR
      have hq1 : (qs.map V.ref)[n]? = some (.ref q1) := by rw [List.getElem?_map, k1]; rfl
      refine .inr ⟨⟨_, _, hp2, hq1⟩, fun H3 => Same H H3 ∧ ∃ ws : List V, H3 Dn = some (.lst ws) ∧ TpAll X.K H3 ws ((T.take (n + 1)).map dW),
        fun H3 ⟨a1, a2⟩ => ⟨T.length - (n + 1), by omega, rfl, hlt, a1, a2⟩, fun v H3 yy => ?_⟩
      obtain ⟨rfl, yy⟩ := yy
      have hv : v = .ref q1 := Option.some.inj ((yy _ hp2).symm.trans hq1)
      subst hv
      have hjs : j < (wipe σ (own.map (·.2))).length := by rw [wipe_length, r.len]; exact hjl
      refine ⟨(wipe_set hj).trans wipe_wipe, ?_⟩
      dsimp only [tYes]
      rw [if_pos (rfl : true = true)]
      refine ⟨_, List.getElem?_set_self hjs, q1, _, rfl, .inl ⟨SqL.of (sm _ _ (g4 _ k2).at_), fun l hl => ?_⟩⟩
      have nDl : Dn ≠ l := fun e => by rw [← e, y1] at hl; cases hl
      have hlH : H l = none := by
        cases q : H l with
        | none => rfl
        | some o => rw [sm _ _ q] at hl; cases hl
      have wl := y2.len
      rw [List.length_map, List.length_take] at wl
      have te1 : Te H3 (upd H3 l (.tup (T[n].map V.int))) := (ExC.new (c := c) hl).te
      have te2 : Te (upd H3 l (.tup (T[n].map V.int))) (upd (upd H3 l (.tup (T[n].map V.int))) Dn (.lst (ws ++ [.ref l]))) := mutO_te (P := fun a => a = Dn) (fun a o n h => by rw [upd_ne n]; exact h) fun a e o h => by
        rw [e, upd_ne nDl, y1] at h
        cases h
        rfl
      refine ⟨ws, by rw [upd_ne nDl]; exact y1, Nat.lt_of_le_of_lt (show ws.length ≤ 1000 by omega) (by decide), fun a o ha => ?_, ws ++ [.ref l], upd_same, ?_⟩
      · rw [upd_ne (show a ≠ Dn from fun e => by rw [e, hD] at ha; cases ha), upd_ne (show a ≠ l from fun e => by rw [e, hlH] at ha; cases ha)]
        exact sm a o ha
      · rw [List.take_add_one, hR, List.map_append]
        refine TpAll.te te2 _ _ ((TpAll.te te1 _ _ y2).append (.cons ?_ .nil))
        exact .tup (SqT.of upd_same) (TpAll.of_ints _)
/-- return (x, k) -/
theorem sd_retM (i : Nat) {n : Int} {k : Nat} (M : MOk pa qs T) (hb : DE X c b δ (.int n)) (h : D.rt (.mat T n)) (hN : X.N[i]? = some x := by rfl) (hv : Vis X.env.scope x := by first | exact Or.inl rfl | exact Or.inr (Or.inl rfl) | exact Or.inr (Or.inr rfl)) (hδ : δ[i]? = some (sMat true pa qs T) := by rfl)
    (hd : (x == ("__debug__" : Str)) = false := by decide) (hcd : (x == ("__classdict__" : Str)) = false := by decide)
    (h1 : starEach (Expr.Name x pn :: [b]) X.env = (false, eval (.Name x pn) X.env) :: starEach [b] X.env := by rfl) (h2 : starEach (b :: []) X.env = (false, eval b X.env) :: starEach [] X.env := by rfl) :
    SD X c (.Return (some (.Tuple [.Name x pn, b] k p2)) pos) δ D :=
  ps_imp (ps_ret (pe_tup (pa_cons (pe_var hN hv hd hcd) (pa_cons hb pa_nil h2) h1))) fun D' σ H ⟨H0, r, kk⟩ => by
    obtain ⟨g1, g2, g3, g4⟩ := rep_mat r hδ
    refine ⟨_, g1, ⟨H0, r⟩, fun w d1 H1 x1 t1 e1 => ?_⟩
    subst e1
    cases t1
    have r1 := r.mono x1
    obtain ⟨g1, g2, g3, g4⟩ := rep_mat r1 hδ
    refine ⟨by show 2 ≤ sizeLine; decide, fun l hl => ?_⟩
    refine kk.rt _ _ (.mat T n) (r1.base.trans (ExC.new hl)) ⟨l, pa, qs, rfl, upd_same, M, fun x hx => ⟨(g4 x hx).new rfl, ?_⟩⟩ h
    rw [upd_ne fun e => by have := (g4 x hx).at_; rw [e, hl] at this; cases this]
    exact (g4 x hx).at_
/-- return (x + [[y]], len(x)) -/
theorem sd_retM2 (i : Nat) {v n : Int} {k : Nat} {pb pl1 pl2 : Pos} (M : MOk pa qs T) (hl : T.length ≤ 1000) (he : DE X c e δ (.int v)) (hb : DE X c b δ (.int n)) (h : D.rt (.mat (T ++ [[v]]) n)) (hN : X.N[i]? = some x := by rfl) (hv : Vis X.env.scope x := by first | exact Or.inl rfl | exact Or.inr (Or.inl rfl) | exact Or.inr (Or.inr rfl)) (hδ : δ[i]? = some (sMat true pa qs T) := by rfl)
    (hd : (x == ("__debug__" : Str)) = false := by decide) (hcd : (x == ("__classdict__" : Str)) = false := by decide)
    (h1 : starEach (Expr.BinOp (.Name x pn) .Add (.List [.List [e] pl1] pl2) pb :: [b]) X.env = (false, eval (Expr.BinOp (.Name x pn) .Add (.List [.List [e] pl1] pl2) pb) X.env) :: starEach [b] X.env := by rfl) (h2 : starEach (b :: []) X.env = (false, eval b X.env) :: starEach [] X.env := by rfl)
    (h3 : starEach (Expr.List [e] pl1 :: []) X.env = (false, eval (.List [e] pl1) X.env) :: starEach [] X.env := by rfl) (h4 : starEach (e :: []) X.env = (false, eval e X.env) :: starEach [] X.env := by rfl) :
    SD X c (.Return (some (.Tuple [.BinOp (.Name x pn) .Add (.List [.List [e] pl1] pl2) pb, b] k p2)) pos) δ D :=
  ps_imp (ps_ret (pe_tup (pa_cons (pe_op op_cat (pe_var hN hv hd hcd) (pe_lst (pa_cons (pe_lst (pa_cons he pa_nil h4)) pa_nil h3))) (pa_cons hb pa_nil h2) h1))) fun D' σ H ⟨H0, r, kk⟩ => by
    obtain ⟨g1, g2, g3, g4⟩ := rep_mat r hδ
    refine ⟨_, g1, ⟨H0, r⟩, fun w d1 H1 x1 t1 e1 => ?_⟩
    subst e1
    cases t1
    have r1 := r.mono x1
    refine ⟨by show 1 ≤ sizeLine; decide, fun q hq => ⟨by show 1 ≤ sizeLine; decide, fun q2 hq2 => ?_⟩⟩
    obtain ⟨g1, g2, g3, g4⟩ := rep_mat r1 hδ
    have n12 : q ≠ q2 := fun e => by rw [← e, upd_same] at hq2; cases hq2
    have hq2' : H1 q2 = none := by rw [upd_ne (Ne.symm n12)] at hq2; exact hq2
    have xa : ExC c H1 (upd H1 q (.lst [.int v])) := ExC.new hq
    have xb : ExC c (upd H1 q (.lst [.int v])) (upd (upd H1 q (.lst [.int v])) q2 (.lst [.ref q])) := ExC.new hq2
    have r3 := (r1.mono xa).mono xb
    obtain ⟨g1, g2, g3, g4'⟩ := rep_mat r3 hδ
    refine ⟨_, _, _, _, rfl, rfl, g2, upd_same, Nat.le_trans (show (qs.map V.ref).length + 1 ≤ 1001 by rw [List.length_map, M.len]; omega) (by decide), fun q3 hq3 => ?_⟩
    have xc : ExC c (upd (upd H1 q (.lst [.int v])) q2 (.lst [.ref q])) (upd (upd (upd H1 q (.lst [.int v])) q2 (.lst [.ref q])) q3 (.lst (qs.map V.ref ++ [.ref q]))) := ExC.new hq3
    have r4 := r3.mono xc
    refine ⟨⟨H0, r4⟩, fun w d5 H5 x5 t5 e5 => ?_⟩
    subst e5
    cases t5
    have r5 := r4.mono x5
    refine ⟨by show 2 ≤ sizeLine; decide, fun l hl => ?_⟩
    have xl : ExC c H5 (upd H5 l (.tup [.ref q3, .int n])) := ExC.new hl
    have keep : ∀ {a o}, c ≠ some a → (upd (upd (upd H1 q (.lst [.int v])) q2 (.lst [.ref q])) q3 (.lst (qs.map V.ref ++ [.ref q]))) a = some o → (upd H5 l (.tup [.ref q3, .int n])) a = some o := fun n h => xl.ex _ _ n (x5.ex _ _ n h)
    have nq3 : q3 ≠ q := fun e => by rw [e, upd_ne n12, upd_same] at hq3; cases hq3
    have nq23 : q3 ≠ q2 := fun e => by rw [e, upd_same] at hq3; cases hq3
    have hq3' : H1 q3 = none := by rw [upd_ne nq23, upd_ne nq3] at hq3; exact hq3
    have fq := r1.fresh hq
    have fq3 := r1.fresh hq3'
    have vq : (upd H5 l (.tup [.ref q3, .int n])) q = some (.lst [.int v]) := keep fq.2 (by rw [upd_ne (Ne.symm nq3), upd_ne n12, upd_same])
    have v3 : (upd H5 l (.tup [.ref q3, .int n])) q3 = some (.lst (qs.map V.ref ++ [.ref q])) := keep fq3.2 upd_same
    have rl := r5.mono xl
    obtain ⟨_, _, _, g5⟩ := rep_mat rl hδ
    refine kk.rt _ _ (.mat (T ++ [[v]]) n) rl.base ⟨l, q3, qs ++ [q], rfl, upd_same, ⟨?_, ?_⟩, fun x hx => ?_⟩ h
    · have old : ∀ a ∈ qs, H1 a ≠ none := fun a ha e => by
        obtain ⟨i', hi'⟩ := List.getElem?_of_mem ha
        have hi2 : i' < T.length := by rw [← M.len]; exact (List.getElem?_eq_some_iff.mp hi').1
        obtain ⟨_, _, _, g6⟩ := rep_mat r1 hδ
        have := (g6 _ (List.mem_cons_of_mem _ (zip_mem hi' (row_get (List.getElem?_eq_getElem hi2))))).at_
        rw [e] at this
        cases this
      refine List.nodup_cons.mpr ⟨fun hm => ?_, List.nodup_append.mpr ⟨(List.nodup_cons.mp M.nd).2, List.nodup_cons.mpr ⟨List.not_mem_nil, List.nodup_nil⟩, fun a ha b hb e => ?_⟩⟩
      · rcases List.mem_append.mp hm with hm | hm
        · exact old q3 hm hq3'
        · exact nq3 (by simpa using hm)
      · have : b = q := by simpa using hb
        rw [e, this] at ha
        exact old q ha hq
    · rw [List.length_append, List.length_append, M.len]
      rfl
    · rcases List.mem_cons.mp hx with rfl | hx
      · refine ⟨fq3.1, ?_⟩
        rw [List.map_append]
        exact v3
      · rw [List.map_append, List.zip_append (by rw [M.len, List.length_map])] at hx
        rcases List.mem_append.mp hx with hx | hx
        · have := g5 x (List.mem_cons_of_mem _ hx)
          exact ⟨this.new rfl, this.at_⟩
        · have : x = (q, .lst [.int v]) := by simpa using hx
          subst this
          exact ⟨fq.1, vq⟩
/-- x = [], to be a list of lists -/
theorem sd_emptyM (i : Nat) (hN : X.N.Nodup) (hi : X.N[i]? = some x) (hx : Loc X.env.scope x) (h : ∀ p, D.nx (δ.set i (sMat true p [] []))) (hs : swapsWith (.List [] p2) (some (.Name x pos')) pos.line X.env = pure false := by rfl) (hf : X.fn x = true ∨ X.env.scope.names.lookup x = some .local := by first | exact .inl rfl | exact .inr rfl | assumption) :
    SD X c (.Assign [.Name x pos'] (.List [] p2) pos) δ D := ps_imp (ps_set hN hi hx (pe_lst pa_nil) hs hf) fun D' σ H ⟨H0, r, kk⟩ => by
  refine ⟨Nat.zero_le _, fun p hp => ?_⟩
  refine kk.nx _ _ _ (r.newZ (ExC.new hp) i (fr := mfr p [] []) fun x hx => ?_) (h p)
  have : x = (p, .lst []) := by simpa [mfr] using hx
  subst this
  exact ⟨hp, upd_same, rfl⟩
end
end WL

set_option maxRecDepth 100000
set_option maxHeartbeats 4000000
namespace WL
open PySem PySem.Spec PyProof.Rows L2
theorem rep_startG {c : Option Addr} {K : PySem.W.Frag} {H : Hp} {N : List Str} {vs : List V} {δ0 : List Slot} (hlen : δ0.length = vs.length) (hl : vs.length ≤ N.length) (h : ∀ i s, δ0[i]? = some s → SlotOk c K H H (L2.start N vs) i s) (hm : ∀ (i : Nat) (a : Addr) (o : Option (Option V)), ¬ mine o a δ0[i]?) (hc : ∀ p, c = some p → CaskAt H p) :
    Rep c K H H (L2.start N vs) (startD N δ0) := by
  refine ⟨?_, fun i s e => ?_, fun i j a hij oi _ => ?_, ExC.refl, hc⟩
  · unfold L2.start startD
    rw [List.length_append, List.length_append, List.length_replicate, List.length_replicate, hlen, List.length_map]
  · unfold startD at e
    by_cases hi : i < δ0.length
    · rw [List.getElem?_append_left hi] at e
      exact h i s e
    · rw [List.getElem?_append_right (by omega), List.getElem?_replicate] at e
      split at e
      · cases e
        exact True.intro
      · cases e
  · unfold startD at oi
    by_cases hi : i < δ0.length
    · rw [List.getElem?_append_left hi] at oi
      exact hm i a _ oi
    · rw [List.getElem?_append_right (by omega), List.getElem?_replicate] at oi
      split at oi <;> exact oi
theorem start_at {N : List Str} {vs : List V} {i : Nat} {v : V} (h : vs[i]? = some v) : (L2.start N vs)[i]? = some (some v) := by
  unfold L2.start
  rw [List.getElem?_append_left (by rw [List.length_map]; exact (List.getElem?_eq_some_iff.mp h).1), List.getElem?_map, h]
  rfl
def MatH (H : Hp) (p : Addr) (qs : List Addr) (T : List (List Int)) : Prop := ∀ x ∈ mfr p qs T, H x.1 = some x.2
theorem MatH.slot {K : PySem.W.Frag} {H : Hp} {σ : L2.St} {i : Nat} {p : Addr} {qs : List Addr} {T : List (List Int)} (h : MatH H p qs T) (e : σ[i]? = some (some (.ref p))) : SlotOk none K H H σ i (sMat false p qs T) :=
  ⟨e, fun x hx => ⟨(fun z => nomatch z), (fun z => nomatch z), h x hx, fun _ => mfr_mut p hx⟩⟩
/-- a list of lists and a letter in, the list of lists with the letter put in and a number out -/
def spM (K : PySem.W.Frag) : Sp := fun vs H Q _ => ∃ p qs T x, vs = [.ref p, .int x] ∧ MOk p qs T ∧ WS.Small 50 T ∧ MatH H p qs T ∧ ∀ v H', ExC none H H' → RetOk K H H' v (.mat (WS.put T x) (WS.putIx T x)) → Q v H'
/-- a list of lists in, tuples out -/
def spT (K : PySem.W.Frag) : Sp := fun vs H Q _ => ∃ p qs T, vs = [.ref p] ∧ MOk p qs T ∧ WS.Small 50 T ∧ MatH H p qs T ∧ ∀ v H', ExC none H H' → Tp K H' v (dR T) → Q v H'
section
variable {P : Program} {w : World} {K : PySem.W.Frag} {mg : Str → Option Value} {base : Heap} {x : Str} {st : Stmt} {N ps : List Str} {k : Nat} {sp : Sp}
theorem dfG (T : Tx K mg x st) (sc : FnScope N ps (defScope st))
    (hb : ∀ (kV doc pm : Value) (an : Option Addr) (cdv ct : Value) (us : List Value), us.length = ps.length → bindArgs (PySem.W.fnOf x x (defArgs st) (defBody st) (defScope st) .none kV doc pm an cdv ct) ⟨us, []⟩ = pure (ps.zip us))
    (len : ∀ vs H Q E, sp vs H Q E → vs.length = ps.length)
    (body : ∀ (f : Addr) (cdv : Value) (A : Around) (outer : List Env) (s : Shared) (H : Hp) (vs : List V) (Q : VK) (E : XK), Room k (A.deeper (envOfC x (defScope st) s.heap.objs.size f cdv)) → sp vs H Q E →
      ∃ (c : Option Addr) (δ : List Slot) (D : DEnds), SDs (CxF P w K mg base N x st f cdv A outer s H E) c (defBody st) δ D ∧ Rep c K H H (L2.start N vs) δ ∧ EndsOk c K H D { nx := fun _ H' => Q .non H', rt := Q }) : Df P w K mg base x (k + 1) ps sp := by
  obtain ⟨f, fd, F, g⟩ := T.ex
  refine ⟨f, fd, F.ok sc len fun cdv A outer s H vs Q E hr h => ?_, g, F.kp, F.binds hb⟩
  obtain ⟨c, δ, D, h1, h2, h3⟩ := body f cdv A outer s H vs Q E hr h
  exact ⟨_, h1, H, h2, h3⟩
end
theorem dN_ints (L : List Nat) : dN L = (L.map fun (k : Nat) => (k : Int)).map .int := by
  unfold dN
  rw [List.map_map]
  rfl
theorem DI.to {X : Cx} {c : Option Addr} {δ : List Slot} {tg e : Expr} {b b' : List PyData} (h : DI X c tg e δ b) (k : b = b') : DI X c tg e δ b' := k ▸ h
/-- the places of the letters above y -/
def overs (R : List Int) (y : Int) : List Nat := (List.range R.length).filter fun i => decide (y < R.getD i 0)
theorem overs_some {R : List Int} {y b : Int} {p : Nat} (h1 : R[p]? = some b) (h2 : ∀ z ∈ R.take p, z ≤ y) (h3 : y < b) : ∃ tl, overs R y = p :: tl := by
  have hp : p < R.length := (List.getElem?_eq_some_iff.mp h1).1
  obtain ⟨m, hm⟩ : ∃ m, R.length = p + (m + 1) := ⟨R.length - p - 1, by omega⟩
  unfold overs
  rw [hm, List.range_add, List.filter_append, List.filter_eq_nil_iff.mpr, List.range_succ_eq_map, List.map_cons, List.filter_cons_of_pos]
  · exact ⟨_, rfl⟩
  · rw [List.getD_eq_getElem?_getD, Nat.add_zero, h1]
    exact decide_eq_true h3
  · intro i hi z
    have hi := List.mem_range.mp hi
    have z := of_decide_eq_true z
    have hm2 : R.getD i 0 ∈ R.take p := by
      refine List.mem_of_getElem? (i := i) ?_
      rw [List.getElem?_take, if_pos hi, List.getD_eq_getElem?_getD, List.getElem?_eq_getElem (by omega)]
      rfl
    have := h2 _ hm2
    omega
theorem overs_none {R : List Int} {y : Int} : overs R y = [] ↔ ∀ z ∈ R, z ≤ y := by
  unfold overs
  rw [List.filter_eq_nil_iff]
  constructor
  · intro h z hz
    obtain ⟨i, hi⟩ := List.getElem?_of_mem hz
    have hl := (List.getElem?_eq_some_iff.mp hi).1
    have := h i (List.mem_range.mpr hl)
    rw [List.getD_eq_getElem?_getD, hi, decide_eq_true_eq] at this
    have this : ¬ y < z := this
    omega
  · intro h i hi z
    have hi := List.mem_range.mp hi
    have z := of_decide_eq_true z
    rw [List.getD_eq_getElem?_getD, List.getElem?_eq_getElem hi] at z
    have z : y < R[i] := z
    have := h _ (List.getElem_mem hi)
    omega
theorem overs_data (R : List Int) (y : Int) : ((rangeD 0 R.length).filter fun d => match d with | .int i => decide (y < R.getD i.toNat 0) | _ => false).map id = dN (overs R y) := by
  unfold rangeD overs dN
  rw [List.map_id, List.filter_map]
  have e : ((fun d => match d with | PyData.int i => decide (y < R.getD i.toNat 0) | _ => false) ∘ fun (i : Nat) => PyData.int (0 + (i : Int))) = fun i => decide (y < R.getD i 0) := by
    funext i
    show decide (y < R.getD (0 + (i : Int)).toNat 0) = _
    rw [Int.zero_add, Int.toNat_natCast]
  rw [e]
  apply List.map_congr_left
  intro i _
  show PyData.int (0 + (i : Int)) = .int (i : Int)
  rw [Int.zero_add]
section
variable {P : Program} {w : World} {K : PySem.W.Frag} {mg : Str → Option Value} {base : Heap}
abbrev s_law_put : Stmt := topS 52
theorem c_law_put : FnScope ["_law_filled", "_law_fresh", "_law_found", "_law_k", "_law_over", "_law_each", "_law_j"] ["_law_filled", "_law_fresh"] (defScope s_law_put) := ⟨rfl, rfl, rfl, by decide +kernel, rfl, by decide +kernel, by decide +kernel⟩
theorem f_law_put (B : Bi mg) (T : Tx K mg "_law_put" s_law_put) : Df P w K mg base "_law_put" 1 ["_law_filled", "_law_fresh"] (spM K) := by
  refine dfG T c_law_put (fun _ _ _ _ _ _ us hl => match us, hl with | [_, _], _ => rfl) (fun vs H Q E ⟨_, _, _, _, e, _⟩ => by rw [e]; rfl) fun f cdv A outer s H vs Q E hr ⟨p0, qs0, T, x, e, M0, hs, hH, q⟩ => ?_
  subst e
  refine ⟨none, startD _ [sMat false p0 qs0 T, .dat (.int x)], ⟨fun _ => False, fun r => r = .mat (WS.put T x) (WS.putIx T x), fun _ => False, fun _ => False⟩, ?_, rep_startG rfl (Nat.le_of_ble_eq_true rfl) (fun i sl hi => ?_) (fun i a o z => ?_) (fun _ z => nomatch z), ⟨fun _ _ _ _ z => z.elim, fun v H' r x' ok e => by subst e; exact q v H' x' ok, fun _ _ _ _ z => z.elim, fun _ _ _ _ z => z.elim⟩⟩
  rotate_left
  · match i, hi with
    | 0, hi =>
      cases hi
      exact hH.slot (start_at rfl)
    | 1, hi =>
      cases hi
      exact ⟨.int x, start_at rfl, .int x⟩
  · match i, z with
    | 0, z => exact z
    | 1, z => exact z
  have hl1 := hs.1
  refine sds_cons (sd_copyM 0 2 5 (own := [("_law_each", 5)]) rfl c_law_put.nd rfl (by exact Or.inr rfl) rfl (by exact Or.inl rfl) rfl M0 (by omega) (blkOk_by (by rfl)) (by decide) (Nat.le_of_ble_eq_true rfl) (fun s H C cl fp => pg_name c_law_put.nd rfl (by exact Or.inl rfl)) (fun s H C cl fp => pe_callTy call_list_of (by rfl) B.list b_list (pa_cons (pe_var rfl (by exact Or.inl rfl)) pa_nil)) fun p1 qs1 M1 => ?_)
  refine sds_cons (sd_for (A := gN 3) (js := [3]) (fun ds i δ => ∃ y p qs F s0 s3 s4 s5 s6, δ = [s0, .dat (.int y), sMat true p qs (F ++ T.drop i), s3, s4, s5, s6] ∧ MOk p qs (F ++ T.drop i) ∧ WS.put T x = F ++ WS.put (T.drop i) y ∧ F.length = i ∧ WS.putIx T x = i + WS.putIx (T.drop i) y) PassesOwn.never rfl (di_range1 (by rfl) B.range (da_cons (de_lenM 2 M1 (by rfl) B.len b_len) da_nil) (by omega))
    (eg_name c_law_put.nd rfl (by exact Or.inr rfl) (by decide)) (fun ds hd => ⟨x, p1, qs1, [], _, _, _, _, _, rfl, M1, rfl, rfl, (Nat.zero_add _).symm⟩) (fun ds i d δ1 hd hi h1 => ?_) fun ds δ1 hd h1 => ?_)
  · subst hd
    obtain ⟨y, p, qs, F, s0, s3, s4, s5, s6, rfl, M, hp, hF, hx⟩ := h1
    rw [Int.toNat_natCast] at hi
    have hiT : i < T.length := by
      have := (List.getElem?_eq_some_iff.mp hi).1
      rw [rangeD_len] at this
      exact this
    rw [rangeD_at hiT] at hi
    have hd : d = .int (i : Int) := by rw [← Option.some.inj hi, Int.zero_add]
    subst hd
    obtain ⟨R, hR⟩ : ∃ R, T[i]? = some R := ⟨_, List.getElem?_eq_getElem hiT⟩
    have eR : T[i] = R := by rw [List.getElem?_eq_getElem hiT] at hR; exact Option.some.inj hR
    have hRl := (hs.2 R (List.mem_of_getElem? hR)).1
    have hd : T.drop i = R :: T.drop (i + 1) := by rw [← eR]; exact List.drop_eq_getElem_cons hiT
    rw [hd] at M hp hx ⊢
    have hMR : (F ++ R :: T.drop (i + 1))[i]? = some R := by rw [List.getElem?_append_right (by omega), hF, Nat.sub_self]; rfl
    have hset : ∀ R', (F ++ R :: T.drop (i + 1)).set i R' = F ++ R' :: T.drop (i + 1) := fun R' => by
      rw [List.set_append_right _ _ (show F.length ≤ i by omega), hF, Nat.sub_self]
      rfl
    refine ⟨_, rfl, sds_cons (sd_setLcD (i := 4) (A := gN 6) (own := [("_law_j", 6)]) (fun d => match d with | .int i => decide (y < R.getD i.toNat 0) | _ => false) id rfl c_law_put.nd rfl rfl rfl (DI.to (di_range1 (by rfl) B.range (da_cons (de_lenR (by rfl) B.len b_len (ar_one (dr_row 2 M hMR (de_var 3)))) da_nil) (by rw [dW_len]; omega)) (by rw [dW_len, Int.toNat_natCast])) (blkOk_by (by rfl))
      (by rw [rangeD_len]; omega) (fun s H C cl fp => eg_name c_law_put.nd rfl (by exact Or.inl rfl) (by decide)) (fun d hd => ?_) ?_)⟩
    · obtain ⟨l, hl, rfl⟩ := List.mem_map.mp hd
      have hl := List.mem_range.mp hl
      rw [Int.zero_add]
      refine ⟨_, rfl, fun s H C cl fp => pts_oneD (dt_cmp (dc_gt (de_ixR (d := .int (R.getD l 0)) (dr_row 2 M hMR (de_var 3)) (de_var 6) (atI_nat ?_)) (de_var 1))), fun _ s H C cl fp => de_var 6⟩
      rw [List.getElem?_map, List.getD_eq_getElem?_getD, List.getElem?_eq_getElem hl]
      rfl
    rw [overs_data]
    refine sds_cons (sd_ifD (k := decide (overs R y = [])) (DT.to (dt_cmp (dc_eqL (u64 hr) (dr_own 4) (er_fresh (df_lst da_nil (Nat.zero_le _))) (by rw [dN_ints]; exact shaped_LI _) (shaped_LI []))) ?_) (fun hk => ?_) fun hk => ?_)
    · rw [dN_ints]
      show PyData.eqv _ (.list (([] : List Int).map .int)) = _
      rw [eqv_LI]
      exact decide_eq_decide.mpr List.map_eq_nil_iff
    · have hall := overs_none.mp (of_decide_eq_true hk)
      have e1 := WS.ins_all_le hall
      obtain ⟨p1, p2⟩ := WS.put_none (R := R) (x := y) (Rs := T.drop (i + 1)) (by rw [e1])
      refine sds_cons (sd_appendM 2 (v := y) M hMR (by omega) (de_var 3) (de_var 1) ?_)
      refine sds_one (sd_retM 2 (M.set (j := i) (R' := R ++ [y])) (de_var 3) ?_)
      show Rt.mat _ _ = Rt.mat _ _
      rw [hset, hp, hx, p1, p2, e1]
      rfl
    · have hno : ¬ overs R y = [] := of_decide_eq_false hk
      obtain ⟨b, hb⟩ : ∃ b, (WS.ins R y).2 = some b := by
        cases e : (WS.ins R y).2 with
        | none => exact absurd (overs_none.mpr (WS.ins_none e).2) hno
        | some b => exact ⟨b, rfl⟩
      obtain ⟨l, q1, q2, q3⟩ := WS.ins_first hb
      have hll := (List.getElem?_eq_some_iff.mp q1).1
      obtain ⟨tl, ho⟩ := overs_some q1 q2 q3
      have e1 := WS.ins_at q1 q2 q3
      obtain ⟨p1, p2⟩ := WS.put_some (Rs := T.drop (i + 1)) hb
      have hix : atI (dN (overs R y)) 0 = some (.int (l : Int)) := atI_nat (j := 0) (by rw [ho]; rfl)
      have hb2 : atI (R.map PyData.int) (l : Int) = some (.int b) := atI_W q1
      have hst : R.set l y = (WS.ins R y).1 := by
        rw [e1, List.set_eq_take_append_cons_drop, if_pos hll]
      refine sds_nil (sds_one (sd_swapM 2 1 (l := l) (v := y) (u := b) rfl c_law_put.nd M hMR hll (by decide) (de_tup (da_cons (de_var 1) (da_cons (de_ixR (dr_row 2 M hMR (de_var 3)) (de_ixR (dr_own 4) de_int hix) hb2) da_nil)) (le5 rfl)) (de_var 3) (de_ixR (dr_own 4) de_int hix) ?_ rfl (by exact Or.inr rfl)))
      refine ⟨b, p, qs, F ++ [(WS.ins R y).1], s0, .dat (.int (i : Nat)), .own (dN (overs R y)), s5, s6, ?_, ?_, ?_, ?_, ?_⟩
      rotate_left
      · have := M.set (j := i) (R' := R.set l y)
        rw [hset, hst] at this
        rw [List.append_assoc]
        exact this
      · rw [hp, p1, List.append_assoc]
        rfl
      · rw [List.length_append, hF]
        rfl
      · rw [hx, p2]
        omega
      · rw [hset, hst, List.append_assoc]
        rfl
  · subst hd
    obtain ⟨y, p, qs, F, s0, s3, s4, s5, s6, rfl, M, hp, hF, hx⟩ := h1
    rw [rangeD_len, Int.toNat_natCast] at M hp hF hx ⊢
    rw [List.drop_of_length_le (Nat.le_refl _)] at M hp hx ⊢
    rw [List.append_nil] at M ⊢
    refine sds_one (sd_retM2 2 M (by omega) (de_var 1) (de_lenM 2 M (by rfl) B.len b_len) ?_)
    show Rt.mat _ _ = Rt.mat _ _
    rw [hp, hx, hF]
    rfl
abbrev s_law_tuples : Stmt := topS 53
theorem c_law_tuples : FnScope ["_law_filled", "_law_each"] ["_law_filled"] (defScope s_law_tuples) := ⟨rfl, rfl, rfl, by decide +kernel, rfl, by decide +kernel, by decide +kernel⟩
theorem f_law_tuples (B : Bi mg) (T : Tx K mg "_law_tuples" s_law_tuples) : Df P w K mg base "_law_tuples" 1 ["_law_filled"] (spT K) := by
  refine dfG T c_law_tuples (fun _ _ _ _ _ _ us hl => match us, hl with | [_], _ => rfl) (fun vs H Q E ⟨_, _, _, e, _⟩ => by rw [e]; rfl) fun f cdv A outer s H vs Q E hr ⟨p0, qs0, T, e, M0, hs, hH, q⟩ => ?_
  subst e
  have hl1 := hs.1
  refine ⟨none, startD _ [sMat false p0 qs0 T], ⟨fun _ => False, fun r => r = .dat (dR T), fun _ => False, fun _ => False⟩, ?_, rep_startG rfl (Nat.le_of_ble_eq_true rfl) (fun i sl hi => ?_) (fun i a o z => ?_) (fun _ z => nomatch z), ⟨fun _ _ _ _ z => z.elim, fun v H' r x' ok e => by subst e; exact q v H' x' ok, fun _ _ _ _ z => z.elim, fun _ _ _ _ z => z.elim⟩⟩
  rotate_left
  · match i, hi with
    | 0, hi =>
      cases hi
      exact hH.slot (start_at rfl)
  · match i, z with
    | 0, z => exact z
  exact sds_one (sd_retD (de_tupR (by rfl) B.tuple b_tuple (ar_one (er_fresh (df_tuplesM 0 1 (own := [("_law_each", 1)]) rfl c_law_tuples.nd rfl (by exact Or.inl rfl) rfl M0 (by omega) (blkOk_by (by rfl)) (by decide) (Nat.le_of_ble_eq_true rfl) (fun s H C cl fp => pg_name c_law_tuples.nd rfl (by exact Or.inl rfl)) (fun s H C cl fp => pe_callTy call_tuple_of (by rfl) B.tuple b_tuple (pa_cons (pe_var rfl (by exact Or.inl rfl)) pa_nil)))))) rfl)
end
section
variable {X : Cx} {c : Option Addr} {δ : List Slot} {D : DEnds} {e : Expr} {pos pos' p pc pn : Pos} {x g : Str} {i kc k : Nat} {pa : Addr} {qs : List Addr} {T : List (List Int)} {ps : List Str} {m : Bool}
/-- x = g(x, e)[0] -/
theorem sd_callM (i : Nat) {v : Int} {p2 : Pos} (F : Df X.prog X.w X.K X.mg X.base g k ps (spM X.K)) (hr : Room k X.A) (hg : Gl X g) (hNd : X.N.Nodup) (hN : X.N[i]? = some x) (hxl : Loc X.env.scope x) (hδ : δ[i]? = some (sMat m pa qs T)) (M : MOk pa qs T) (hs : WS.Small 50 T) (he : DE X c e δ (.int v)) (h : ∀ p2 qs2, MOk p2 qs2 (WS.put T v) → D.nx (δ.set i (sMat true p2 qs2 (WS.put T v))))
    (hv : Vis X.env.scope x := by first | exact Or.inl rfl | exact Or.inr (Or.inl rfl) | exact Or.inr (Or.inr rfl)) (hd : (x == ("__debug__" : Str)) = false := by decide) (hcd : (x == ("__classdict__" : Str)) = false := by decide) (hdb : (g == ("__debug__" : Str)) = false := by decide)
    (h1 : starEach (Expr.Name x pn :: [e]) X.env = (false, eval (.Name x pn) X.env) :: starEach [e] X.env := by rfl) (h2 : starEach (e :: []) X.env = (false, eval e X.env) :: starEach [] X.env := by rfl) (hpl : (backTo pc (starEach [e] X.env)).any (·.1) = false := by rfl)
    {pos2 : Pos} (hsw : swapsWith (.Subscript (.Call (.Name g p) [.Name x pn, e] [] pc) (.Constant (.int 0) kc p2) pos') (some (.Name x pos)) pos2.line X.env = pure false := by rfl) (hf : X.fn x = true ∨ X.env.scope.names.lookup x = some .local := by first | exact .inl rfl | exact .inr rfl | assumption) :
    SD X c (.Assign [.Name x pos] (.Subscript (.Call (.Name g p) [.Name x pn, e] [] pc) (.Constant (.int 0) kc p2) pos') pos2) δ D := by
  obtain ⟨f, fd, F, hm, hk, hb⟩ := F.ex
  refine ps_imp (ps_set hNd hN hxl (pe_ix ix_tup (pe_call F hr hg hm hk hb .nil pass0 (pa_cons (pe_var hN hv hd hcd) (pa_cons he pa_nil h2) h1) hdb h1 hpl) (de_int (c := c) (δ := δ)) (by exact fun _ _ => rfl)) hsw hf) fun D' σ H ⟨H0, r, kk⟩ => ?_
  obtain ⟨g1, g2, g3, g4⟩ := rep_mat r hδ
  refine ⟨_, g1, ⟨H0, r⟩, fun w d1 H1 x1 t1 e1 => ?_⟩
  subst e1
  cases t1
  have r1 := r.mono x1
  obtain ⟨g1, g2, g3, g4⟩ := rep_mat r1 hδ
  refine ⟨pa, qs, T, v, rfl, M, hs, fun x hx => (g4 x hx).at_, fun w H2 x2 ok => ?_⟩
  obtain ⟨t, p3, qs3, rfl, k1, k2, k3⟩ := ok
  have r2 := r1.mono (ExC.none x2)
  refine ⟨⟨H0, r2⟩, fun w d3 H3 x3 t3 e3 => ?_⟩
  subst e3
  cases t3
  have x13 : ExC c H1 H3 := (ExC.none x2).trans x3
  refine ⟨t, _, 0, .ref p3, rfl, rfl, x3.te.t (SqT.of k1), rfl, kk.nx _ _ _ (r1.newZ x13 i (fr := mfr p3 qs3 (WS.put T v)) fun x hx => ?_) (h p3 qs3 k2)⟩
  exact ⟨(k3 x hx).1, x3.ex _ _ (r1.fresh (k3 x hx).1).2 (k3 x hx).2, mfr_mut p3 hx⟩
theorem de_callT (i : Nat) (F : Df X.prog X.w X.K X.mg X.base g k ps (spT X.K)) (hr : Room k X.A) (hg : Gl X g) (M : MOk pa qs T) (hs : WS.Small 50 T) (hN : X.N[i]? = some x := by rfl) (hv : Vis X.env.scope x := by first | exact Or.inl rfl | exact Or.inr (Or.inl rfl) | exact Or.inr (Or.inr rfl)) (hδ : δ[i]? = some (sMat m pa qs T) := by rfl)
    (hd : (x == ("__debug__" : Str)) = false := by decide) (hcd : (x == ("__classdict__" : Str)) = false := by decide) (hdb : (g == ("__debug__" : Str)) = false := by decide)
    (h1 : starEach (Expr.Name x pn :: []) X.env = (false, eval (.Name x pn) X.env) :: starEach [] X.env := by rfl) (hpl : (backTo pc (starEach [] X.env)).any (·.1) = false := by rfl) : DE X c (.Call (.Name g p) [.Name x pn] [] pc) δ (dR T) := by
  obtain ⟨f, fd, F, hm, hk, hb⟩ := F.ex
  refine pe_imp (pe_call F hr hg hm hk hb .nil pass0 (pa_cons (pe_var hN hv hd hcd) pa_nil h1) hdb h1 hpl) fun σ H Q ⟨⟨H0, r⟩, q⟩ => ?_
  obtain ⟨g1, g2, g3, g4⟩ := rep_mat r hδ
  exact ⟨_, g1, pa, qs, T, rfl, M, hs, fun x hx => (g4 x hx).at_, fun v H2 x2 t2 => q v _ H2 (ExC.none x2) t2 rfl⟩
end
section
variable {P : Program} {w : World} {K : PySem.W.Frag} {mg : Str → Option Value} {base : Heap}
abbrev s_law_grown : Stmt := topS 54
theorem c_law_grown : FnScope ["_law_w", "_law_found", "_law_fresh"] ["_law_w"] (defScope s_law_grown) := ⟨rfl, rfl, rfl, by decide +kernel, rfl, by decide +kernel, by decide +kernel⟩
theorem f_law_grown (D1 : Df P w K mg base "_law_put" 1 ["_law_filled", "_law_fresh"] (spM K)) (D2 : Df P w K mg base "_law_tuples" 1 ["_law_filled"] (spT K)) (T : Tx K mg "_law_grown" s_law_grown) : Df P w K mg base "_law_grown" 2 ["_law_w"] (spR K 1 S_rows) := by
  refine dfR T c_law_grown rfl (fun _ _ _ _ _ _ us hl => match us, hl with | [_], _ => rfl) fun f cdv A outer s H E ds r hr hS => ?_
  obtain ⟨w, hl, rfl, rfl⟩ := hS
  have sm : ∀ i, WS.Small 50 (WS.rowsOf (w.take i)) := fun i => by
    have := WS.rowsOf_small (w.take i)
    rw [List.length_take] at this
    exact ⟨by have := this.1; omega, fun R hR => by have := this.2 R hR; omega⟩
  refine sds_cons (sd_emptyM 1 c_law_grown.nd rfl (by exact Or.inl rfl) fun p1 => ?_)
  refine sds_cons (sd_for (A := gN 2) (js := [2]) (fun ds i δ => ∃ p qs s2, δ = [.dat (dW w), sMat true p qs (WS.rowsOf (w.take i)), s2] ∧ MOk p qs (WS.rowsOf (w.take i))) PassesOwn.never rfl (di_tup (de_var 0)) (eg_name c_law_grown.nd rfl (by exact Or.inl rfl) (by decide)) (fun ds hd => ⟨p1, [], _, rfl, ⟨List.nodup_cons.mpr ⟨List.not_mem_nil, List.nodup_nil⟩, rfl⟩⟩) (fun ds i d δ1 hd hi h1 => ?_) fun ds δ1 hd h1 => ?_)
  · subst hd
    obtain ⟨p, qs, s2, rfl, M⟩ := h1
    obtain ⟨x, hx, rfl⟩ := dW_got hi
    obtain ⟨hiw, ex⟩ := List.getElem?_eq_some_iff.mp hx
    refine ⟨_, rfl, sds_one (sd_callM 1 D1 (hr.mono (by omega)) (by rfl) c_law_grown.nd rfl (by exact Or.inl rfl) rfl M (sm i) (de_var 2) fun p2 qs2 M2 => ?_)⟩
    refine ⟨p2, qs2, .dat (.int x), ?_, ?_⟩
    · rw [WS.rowsOf_take w hiw, ex]
      rfl
    · rw [WS.rowsOf_take w hiw, ex]
      exact M2
  · subst hd
    obtain ⟨p, qs, s2, rfl, M⟩ := h1
    rw [dW_len, List.take_of_length_le (Nat.le_refl _)] at M ⊢
    have sw := sm w.length
    rw [List.take_of_length_le (Nat.le_refl _)] at sw
    exact sds_one (sd_retD (de_callT 1 D2 (hr.mono (by omega)) (by rfl) M sw) rfl)
end
end WL

set_option maxRecDepth 100000
set_option maxHeartbeats 4000000
namespace WL
open PySem PySem.Spec PyProof.Rows L2
/-! ### defs that are handed the cask -/
/-- the cask and data in; S tells of the data what the answer obeys -/
def spC (K : PySem.W.Frag) (n : Nat) (S : List PyData → (Rt → Prop) → Prop) : Sp := fun vs H Q _ => ∃ (p : Addr) (us : List V) (ds : List PyData) (R : Rt → Prop), vs = V.ref p :: us ∧ us.length = n ∧ CaskAt H p ∧ TpAll K H us ds ∧ S ds R ∧
  ∀ v H' r, ExC (some p) H H' → RetOk K H H' v r → R r → Q v H'
section
variable {P : Program} {w : World} {K : PySem.W.Frag} {mg : Str → Option Value} {base : Heap} {x : Str} {st : Stmt} {N ps : List Str} {k n : Nat} {S : List PyData → (Rt → Prop) → Prop}
theorem dfC (T : Tx K mg x st) (sc : FnScope N ps (defScope st)) (hn : ps.length = n + 1)
    (hb : ∀ (kV doc pm : Value) (an : Option Addr) (cdv ct : Value) (us : List Value), us.length = ps.length → bindArgs (PySem.W.fnOf x x (defArgs st) (defBody st) (defScope st) .none kV doc pm an cdv ct) ⟨us, []⟩ = pure (ps.zip us))
    (body : ∀ (f : Addr) (cdv : Value) (A : Around) (outer : List Env) (s : Shared) (H : Hp) (E : XK) (ds : List PyData) (R : Rt → Prop) (p : Addr), Room k (A.deeper (envOfC x (defScope st) s.heap.objs.size f cdv)) → S ds R → ds.length = n →
      SDs (CxF P w K mg base N x st f cdv A outer s H E) (some p) (defBody st) (startD N (.csk :: ds.map .dat)) ⟨fun _ => R (.dat .none), R, fun _ => False, fun _ => False⟩) : Df P w K mg base x (k + 1) ps (spC K n S) := by
  refine dfG T sc hb (fun vs H Q E ⟨p, us, ds, R, e, hl, _⟩ => by rw [e, hn, List.length_cons, hl]) fun f cdv A outer s H vs Q E hr ⟨p, us, ds, R, e, hl, hc, t, hS, q⟩ => ?_
  subst e
  have hpre := congrArg List.length sc.pre
  rw [List.length_take] at hpre
  have hdl : ds.length = n := by rw [← t.len]; exact hl
  refine ⟨some p, _, _, body f cdv A outer s H E ds R p hr hS hdl, rep_startG (by simp [hdl, hl]) (by rw [List.length_cons]; omega) (fun i s e => ?_) (fun i a o z => ?_) (fun p' e => by cases e; exact hc), ⟨fun σ H' δ r' e => q .non H' (.dat .none) r'.base Tp.non e, fun v H' r x' ok e => q v H' r x' ok e, fun _ _ _ _ z => z.elim, fun _ _ _ _ z => z.elim⟩⟩
  · cases i with
    | zero =>
      cases e
      exact ⟨p, rfl, start_at rfl⟩
    | succ i =>
      rw [List.getElem?_cons_succ, List.getElem?_map] at e
      cases hd : ds[i]? with
      | none => rw [hd] at e; cases e
      | some d =>
        rw [hd] at e
        cases e
        obtain ⟨v, h1, h2⟩ := t.getD hd
        exact ⟨v, start_at (by rw [List.getElem?_cons_succ]; exact h1), h2⟩
  · cases i with
    | zero => exact z
    | succ i =>
      rw [List.getElem?_cons_succ, List.getElem?_map] at z
      cases hd : ds[i]? with
      | none => rw [hd] at z; exact z
      | some d => rw [hd] at z; exact z
end
section
variable {X : Cx} {c : Option Addr} {δ : List Slot} {D : DEnds} {a b e : Expr} {es : List Expr} {pos pos' p p2 pn : Pos} {d : PyData} {ds : List PyData} {L : List PyData → Prop} {R : PyData → Prop} {B : Bool → Prop} {x y g : Str} {i k n : Nat} {ps : List Str} {S : List PyData → (Rt → Prop) → Prop}
/-- a call with the cask -/
theorem ed_cc (i : Nat) (F : Df X.prog X.w X.K X.mg X.base g k ps (spC X.K n S)) (hr : Room k X.A) (hg : Gl X g) (ha : EA X c es δ L) (h : ∀ ds, L ds → ds.length = n ∧ ∃ Rr, S ds Rr ∧ ∀ r, Rr r → ∃ d, r = .dat d ∧ R d)
    (hN : X.N[i]? = some y := by rfl) (hv : Vis X.env.scope y := by first | exact Or.inl rfl | exact Or.inr (Or.inl rfl) | exact Or.inr (Or.inr rfl)) (hδ : δ[i]? = some .csk := by rfl) (hd : (y == ("__debug__" : Str)) = false := by decide) (hcd : (y == ("__classdict__" : Str)) = false := by decide)
    (hdb : (g == ("__debug__" : Str)) = false := by decide) (he : starEach (.Name y pn :: es) X.env = (false, eval (.Name y pn) X.env) :: starEach es X.env := by rfl) (hpl : (backTo pos (starEach es X.env)).any (·.1) = false := by rfl) : ED X c (.Call (.Name g p) (.Name y pn :: es) [] pos) δ R := by
  obtain ⟨f, fd, F, hm, hk, hb⟩ := F.ex
  refine pe_imp (pe_call F hr hg hm hk hb .nil pass0 (pa_cons (pe_var hN hv hd hcd) ha he) hdb he hpl) fun σ H Q ⟨⟨H0, r⟩, q⟩ => ?_
  obtain ⟨pc, hc, g1⟩ := r.at_ i _ hδ
  refine ⟨_, g1, ⟨H0, r⟩, fun vs ds H1 x1 t1 r1 => ?_⟩
  obtain ⟨hl, Rr, hS, hR⟩ := h ds r1
  rw [List.append_nil]
  refine ⟨pc, vs, ds, Rr, rfl, by rw [t1.len]; exact hl, (r.mono x1).cask hc, t1, hS, fun v H' rr x' ok k1 => ?_⟩
  obtain ⟨d, rfl, hd⟩ := hR rr k1
  exact q v d H' (x1.trans (hc ▸ x')) ok hd
/-- a number of the cask -/
theorem ed_ck (i : Nat) {j : Nat} {n : Int} (hn : n = 0 ∨ n = 1 ∨ n = 2 := by decide) (hN : X.N[i]? = some y := by rfl) (hv : Vis X.env.scope y := by first | exact Or.inl rfl | exact Or.inr (Or.inl rfl) | exact Or.inr (Or.inr rfl)) (hδ : δ[i]? = some .csk := by rfl) (hd : (y == ("__debug__" : Str)) = false := by decide) (hcd : (y == ("__classdict__" : Str)) = false := by decide) :
    ED X c (.Subscript (.Name y pn) (.Constant (.int n) j p2) pos) δ (fun d => ∃ i, d = .int i ∧ True) := pe_imp (pe_ix ix_list (pe_var hN hv hd hcd) (de_int (c := c) (δ := δ)) (by exact fun _ _ => rfl)) fun σ H Q ⟨⟨H0, r⟩, q⟩ => by
  obtain ⟨pc, hc, g1⟩ := r.at_ i _ hδ
  refine ⟨_, g1, ⟨H0, r⟩, fun w d2 H2 x2 t2 e2 => ?_⟩
  subst e2
  cases t2
  obtain ⟨u, v, t, h⟩ := (r.mono x2).cask hc
  rcases hn with rfl | rfl | rfl
  · exact ⟨pc, _, 0, .int u, rfl, rfl, SqL.of h, rfl, q _ _ H2 x2 (.int u) ⟨u, rfl, True.intro⟩⟩
  · exact ⟨pc, _, 1, .int v, rfl, rfl, SqL.of h, rfl, q _ _ H2 x2 (.int v) ⟨v, rfl, True.intro⟩⟩
  · exact ⟨pc, _, 2, .int t, rfl, rfl, SqL.of h, rfl, q _ _ H2 x2 (.int t) ⟨t, rfl, True.intro⟩⟩
theorem cask_upd {H : Hp} {pc : Addr} {o : HO} (h : CaskAt H pc) (h2 : CaskAt (upd H pc o) pc) : ExC (some pc) H (upd H pc o) := by
  obtain ⟨u, v, t, h⟩ := h
  refine ⟨fun a o' n q => ?_, fun p' e _ => by cases e; exact h2, mutO_te (P := fun a => a = pc) (fun a o' n q => by rw [upd_ne n]; exact q) fun a e o' q => by rw [e, h] at q; cases q; rfl⟩
  rw [upd_ne fun e => n (by rw [e])]
  exact q
theorem cask_set {H : Hp} {pc : Addr} {n z : Int} (h : CaskAt H pc) (hn : n = 0 ∨ n = 1 ∨ n = 2) : ∃ xs j, H pc = some (.lst xs) ∧ ixN xs.length n = some j ∧ ExC (some pc) H (upd H pc (.lst (xs.set j (.int z)))) := by
  have h' := h
  obtain ⟨u, v, t, h⟩ := h
  rcases hn with rfl | rfl | rfl
  · exact ⟨_, 0, h, rfl, cask_upd h' ⟨z, v, t, upd_same⟩⟩
  · exact ⟨_, 1, h, rfl, cask_upd h' ⟨u, z, t, upd_same⟩⟩
  · exact ⟨_, 2, h, rfl, cask_upd h' ⟨u, v, z, upd_same⟩⟩
/-- cask[n] = e -/
theorem sd_ckset (i : Nat) {j : Nat} {n : Int} (he : ED X c e δ (fun d => ∃ z, d = .int z ∧ True)) (h : D.nx δ) (hn : n = 0 ∨ n = 1 ∨ n = 2 := by decide) (hN : X.N[i]? = some y := by rfl) (hv : Vis X.env.scope y := by first | exact Or.inl rfl | exact Or.inr (Or.inl rfl) | exact Or.inr (Or.inr rfl)) (hδ : δ[i]? = some .csk := by rfl) (hd : (y == ("__debug__" : Str)) = false := by decide) (hcd : (y == ("__classdict__" : Str)) = false := by decide)
    (hasn : ∀ v, assign (.Subscript (.Name y pn) (.Constant (.int n) j p2) pos') X.env v = (do
      let ov ← holding [v] (eval (.Name y pn) X.env)
      let iv ← holding [v, ov] (eval (.Constant (.int n) j p2) X.env)
      standAt pos'
      holding [v, ov, iv] (setItem ov iv v)
      release [v, ov, iv] []) := by intro _; rfl)
    (hs : swapsWithSole [Expr.Subscript (.Name y pn) (.Constant (.int n) j p2) pos'] e pos.line X.env = pure false := by rfl) (hw : swappedStores [Expr.Subscript (.Name y pn) (.Constant (.int n) j p2) pos'] e X.env = pure none := by rfl)
    (h1 : (assignEach [Expr.Subscript (.Name y pn) (.Constant (.int n) j p2) pos'] X.env).map (·.2) = [assign (.Subscript (.Name y pn) (.Constant (.int n) j p2) pos') X.env] := by rfl) :
    SD X c (.Assign [.Subscript (.Name y pn) (.Constant (.int n) j p2) pos'] e pos) δ D :=
  ps_imp (ps_asg he (pg_sub (pe_var hN hv hd hcd) (de_int (c := c) (δ := δ)) set_list hasn) hs hw h1) fun D' σ H ⟨H0, r, kk⟩ => by
    refine ⟨⟨H0, r⟩, fun w d1 H1 x1 t1 ⟨z, e1, _⟩ => ?_⟩
    subst e1
    cases t1
    have r1 := r.mono x1
    obtain ⟨pc, hc, g1⟩ := r1.at_ i _ hδ
    refine ⟨_, g1, ⟨H0, r1⟩, fun w d2 H2 x2 t2 e2 => ?_⟩
    subst e2
    cases t2
    have r2 := r1.mono x2
    obtain ⟨xs, jj, k1, k2, k3⟩ := cask_set (z := z) (r2.cask hc) hn
    exact ⟨pc, xs, n, jj, rfl, rfl, k1, k2, kk.nx _ _ _ (r2.mono (hc ▸ k3)) h⟩
/-- cask[n], x = e -/
theorem sd_ckset2 (i k : Nat) {j : Nat} {n : Int} {R2 : Int → Prop} {pt px : Pos} {kt : Nat} (hcm : X.calm = true) (hNd : X.N.Nodup) (he : ED X c e δ (fun d => ∃ z u, d = .tuple [.int z, .int u] ∧ R2 u)) (hx : X.N[k]? = some x) (hxl : Loc X.env.scope x) (h : ∀ u, R2 u → D.nx (δ.set k (.dat (.int u)))) (hn : n = 0 ∨ n = 1 ∨ n = 2 := by decide) (hN : X.N[i]? = some y := by rfl) (hv : Vis X.env.scope y := by first | exact Or.inl rfl | exact Or.inr (Or.inl rfl) | exact Or.inr (Or.inr rfl)) (hδ : δ[i]? = some .csk := by rfl) (hd : (y == ("__debug__" : Str)) = false := by decide) (hcd : (y == ("__classdict__" : Str)) = false := by decide)
    (hasn : ∀ v, assign (.Subscript (.Name y pn) (.Constant (.int n) j p2) pos') X.env v = (do
      let ov ← holding [v] (eval (.Name y pn) X.env)
      let iv ← holding [v, ov] (eval (.Constant (.int n) j p2) X.env)
      standAt pos'
      holding [v, ov, iv] (setItem ov iv v)
      release [v, ov, iv] []) := by intro _; rfl)
    (hs1 : (assignEach [Expr.Subscript (.Name y pn) (.Constant (.int n) j p2) pos', .Name x px] X.env).map (·.2) = assign (.Subscript (.Name y pn) (.Constant (.int n) j p2) pos') X.env :: (assignEach [Expr.Name x px] X.env).map (·.2) := by rfl) (hs2 : (assignEach [Expr.Name x px] X.env).map (·.2) = assign (.Name x px) X.env :: (assignEach [] X.env).map (·.2) := by rfl)
    (hln : (assignEach [Expr.Subscript (.Name y pn) (.Constant (.int n) j p2) pos', .Name x px] X.env).length = 2 := by rfl) (hst : (assignEach [Expr.Subscript (.Name y pn) (.Constant (.int n) j p2) pos', .Name x px] X.env).findIdx? (·.1) = none := by rfl)
    (hs : swapsWithSole [Expr.Tuple [.Subscript (.Name y pn) (.Constant (.int n) j p2) pos', .Name x px] kt pt] e pos.line X.env = pure false := by rfl) (hw : swappedStores [Expr.Tuple [.Subscript (.Name y pn) (.Constant (.int n) j p2) pos', .Name x px] kt pt] e X.env = pure none := by rfl)
    (h1 : (assignEach [Expr.Tuple [.Subscript (.Name y pn) (.Constant (.int n) j p2) pos', .Name x px] kt pt] X.env).map (·.2) = [assign (.Tuple [.Subscript (.Name y pn) (.Constant (.int n) j p2) pos', .Name x px] kt pt) X.env] := by rfl) (hf : X.fn x = true ∨ X.env.scope.names.lookup x = some .local := by first | exact .inl rfl | exact .inr rfl | assumption) :
    SD X c (.Assign [.Tuple [.Subscript (.Name y pn) (.Constant (.int n) j p2) pos', .Name x px] kt pt] e pos) δ D :=
  ps_imp (ps_asg he (pg_tup hcm (pgs_cons (pg_sub (pe_var hN hv hd hcd) (de_int (c := c) (δ := δ)) set_list hasn) (pgs_cons (pg_name hNd hx hxl hf) pgs_nil hs2) hs1) hln hst) hs hw h1) fun D' σ H ⟨H0, r, kk⟩ => by
    refine ⟨⟨H0, r⟩, fun w d1 H1 x1 t1 ⟨z, u, e1, hu⟩ => ?_⟩
    subst e1
    cases t1 with
    | tup s1 a1 =>
      cases a1 with
      | cons b1 b2 =>
        cases b2 with
        | cons b2 b3 =>
          cases b3
          cases b1
          cases b2
          have r1 := r.mono x1
          obtain ⟨pc, hc, g1⟩ := r1.at_ i _ hδ
          refine ⟨_, _, rfl, s1, rfl, _, _, rfl, _, g1, ⟨H0, r1⟩, fun w d2 H2 x2 t2 e2 => ?_⟩
          subst e2
          cases t2
          have r2 := r1.mono x2
          obtain ⟨xs, jj, k1, k2, k3⟩ := cask_set (z := z) (r2.cask hc) hn
          exact ⟨pc, xs, n, jj, rfl, rfl, k1, k2, _, _, rfl, rfl, kk.nx _ _ _ ((r2.mono (hc ▸ k3)).setD k (.int u)) (h u hu)⟩
/-! numbers -/
theorem de_mod {i j : Int} (ha : DE X c a δ (.int i)) (hb : DE X c b δ (.int j)) (hj : 0 < j) : DE X c (.BinOp a .Mod b pos) δ (.int (i % j)) :=
  ED.mono (ed_opI op_mod (DE.i ha) (DE.i hb) fun i' j' _ e2 => by rw [e2]; exact hj) fun d ⟨i', j', e, e1, e2⟩ => by rw [e, e1, e2]
theorem de_mul {i j : Int} (ha : DE X c a δ (.int i)) (hb : DE X c b δ (.int j)) (hj : CMul i j) : DE X c (.BinOp a .Mult b pos) δ (.int (i * j)) :=
  ED.mono (ed_opI op_mul (DE.i ha) (DE.i hb) fun i' j' e1 e2 => by rw [e1, e2]; exact hj) fun d ⟨i', j', e, e1, e2⟩ => by rw [e, e1, e2]
theorem ed_int1 {P1 : Int → Prop} (hg : Gl X x) (hm : X.mg x = none) (hv : bootBuiltins x = some (.type "int")) (ha : ED X c a δ fun d => ∃ i, d = .int i ∧ P1 i)
    (hn : x ≠ "__name__" := by decide) (hdb : (x == ("__debug__" : Str)) = false := by decide) (he : starEach [a] X.env = (false, eval a X.env) :: starEach [] X.env := by rfl) (hpl : (backTo pos (starEach [] X.env)).any (·.1) = false := by rfl) :
    ED X c (.Call (.Name x p) [a] [] pos) δ (fun d => ∃ i, d = .int i ∧ P1 i) := ed_callTy call_int1 hg hm hv (ea_cons ha da_nil he) (fun H vs es Q t ⟨d, r, k1, ⟨i, k2, k3⟩, k4⟩ q => by
  subst k1 k2 k4
  cases t with
  | cons t1 t2 =>
    cases t2
    cases t1
    exact .inl ⟨i, rfl, q _ _ H ExC.refl (.int i) ⟨i, rfl, k3⟩⟩) hn hdb he hpl
theorem ec_cmpI {op : CmpOp} {g : Int → Int → Bool} {P1 P2 : Int → Prop} (ho : OpR X (compareOp op) (rI0 fun i j => .bl (g i j))) (ha : ED X c a δ fun d => ∃ i, d = .int i ∧ P1 i) (hb : ED X c b δ fun d => ∃ i, d = .int i ∧ P2 i) : EC X c op a b δ (fun k => ∃ i j, k = g i j ∧ P1 i ∧ P2 j) :=
  ec_op ho ha hb fun H v u d1 d2 Q t1 t2 ⟨i, e1, p1⟩ ⟨j, e2, p2⟩ q => by
    subst e1 e2
    cases t1
    cases t2
    exact ⟨i, j, rfl, rfl, q _ H ExC.refl ⟨i, j, rfl, p1, p2⟩⟩
theorem ed_divmod {P1 : Int → Prop} {t : Int} (ht : 0 < t ∧ t < 1073741824) (hg : Gl X x) (hm : X.mg x = none) (hv : bootBuiltins x = some (.builtin "divmod")) (ha : ED X c a δ fun d => ∃ i, d = .int i ∧ P1 i) (hb : DE X c b δ (.int t))
    (hn : x ≠ "__name__" := by decide) (hdb : (x == ("__debug__" : Str)) = false := by decide) (he : starEach [a, b] X.env = (false, eval a X.env) :: starEach [b] X.env := by rfl) (he2 : starEach [b] X.env = (false, eval b X.env) :: starEach [] X.env := by rfl) (hpl : (backTo pos (starEach [b] X.env)).any (·.1) = false := by rfl) :
    ED X c (.Call (.Name x p) [a, b] [] pos) δ (fun d => ∃ z u, d = .tuple [.int z, .int u] ∧ 0 ≤ u ∧ u < t) := ed_callB call_divmod hg hm hv (ea_cons ha (da_cons hb da_nil he2) he) (fun H vs es Q t ⟨d, r, k1, ⟨i, k2, k3⟩, k4⟩ q => by
  subst k1 k2 k4
  cases t with
  | cons t1 t2 =>
    cases t2 with
    | cons t2 t3 =>
      cases t3
      cases t1
      cases t2
      refine ⟨i, _, rfl, ht, fun p hp => q _ (.tuple [.int (i / _), .int (i % _)]) _ (ExC.new hp) (.tup (SqT.of upd_same) (.cons (.int _) (.cons (.int _) .nil))) ⟨_, _, rfl, Int.emod_nonneg _ (by omega), Int.emod_lt_of_pos _ ht.1⟩⟩) hn hdb he hpl
/-! lists that are only read -/
def sRd (q : Addr) (ns : List Int) : Slot := .frg false q [(q, .lst (ns.map V.int))]
theorem dr_rd (i : Nat) {q : Addr} {ns : List Int} (hN : X.N[i]? = some y := by rfl) (hv : Vis X.env.scope y := by first | exact Or.inl rfl | exact Or.inr (Or.inl rfl) | exact Or.inr (Or.inr rfl)) (hδ : δ[i]? = some (sRd q ns) := by rfl) (hd : (y == ("__debug__" : Str)) = false := by decide) (hcd : (y == ("__classdict__" : Str)) = false := by decide) :
    DR X c (.Name y pn) δ (ns.map .int) := pe_imp (pe_var hN hv hd hcd) fun σ H Q ⟨⟨H0, r⟩, q⟩ => by
  obtain ⟨g1, g2⟩ := r.at_ i _ hδ
  have k := g2 _ List.mem_cons_self
  exact ⟨_, g1, q _ _ _ H k.nc ExC.refl (SqL.of k.at_) (TpAll.of_ints ns) rfl⟩
end
/-- the cask and a list of numbers in, one of them out -/
def spW (K : PySem.W.Frag) : Sp := fun vs H Q _ => ∃ (p q : Addr) (ns : List Int), vs = [.ref p, .ref q] ∧ CaskAt H p ∧ p ≠ q ∧ H q = some (.lst (ns.map V.int)) ∧ ns ≠ [] ∧ ns.length ≤ 1000 ∧ ∀ i H', ExC (some p) H H' → i ∈ ns → Q (.int i) H'
section
variable {X : Cx} {c : Option Addr} {δ : List Slot} {D : DEnds} {a b e : Expr} {es : List Expr} {pos pos' p p2 pn : Pos} {d : PyData} {ds : List PyData} {L : List PyData → Prop} {R : PyData → Prop} {x y z g : Str} {i k n : Nat} {ps : List Str} {ns : List Int}
/-- which(cask, a new list) -/
theorem ed_which (i : Nat) (F : Df X.prog X.w X.K X.mg X.base g k ps (spW X.K)) (hr : Room k X.A) (hg : Gl X g) (ha : DF X c e δ (ns.map .int)) (h0 : ns ≠ []) (hl : ns.length ≤ 1000)
    (hN : X.N[i]? = some y := by rfl) (hv : Vis X.env.scope y := by first | exact Or.inl rfl | exact Or.inr (Or.inl rfl) | exact Or.inr (Or.inr rfl)) (hδ : δ[i]? = some .csk := by rfl) (hd : (y == ("__debug__" : Str)) = false := by decide) (hcd : (y == ("__classdict__" : Str)) = false := by decide)
    (hdb : (g == ("__debug__" : Str)) = false := by decide) (he : starEach (.Name y pn :: [e]) X.env = (false, eval (.Name y pn) X.env) :: starEach [e] X.env := by rfl) (he2 : starEach (e :: []) X.env = (false, eval e X.env) :: starEach [] X.env := by rfl) (hpl : (backTo pos (starEach [e] X.env)).any (·.1) = false := by rfl) : ED X c (.Call (.Name g p) [.Name y pn, e] [] pos) δ (fun d => ∃ j, d = .int j ∧ j ∈ ns) := by
  obtain ⟨f, fd, F, hm, hk, hb⟩ := F.ex
  refine pe_imp (pe_call F hr hg hm hk hb .nil pass0 (pa_cons (pe_var hN hv hd hcd) (pa_cons ha pa_nil he2) he) hdb he hpl) fun σ H Q ⟨⟨H0, r⟩, q⟩ => ?_
  obtain ⟨pc, hc, g1⟩ := r.at_ i _ hδ
  refine ⟨_, g1, ⟨H0, r⟩, fun l vs ds H1 n1 x1 y1 t1 r1 => ?_⟩
  subst r1
  rw [t1.ints] at y1
  refine ⟨pc, l, ns, rfl, (r.mono x1).cask hc, fun e => (r.fresh n1).2 (by rw [hc, e]), y1, h0, hl, fun j H' x' hj => q _ _ H' (x1.trans (hc ▸ x')) (.int j) ⟨j, rfl, hj⟩⟩
/-- which(cask, one's own list) -/
theorem ed_whichO (i j : Nat) (F : Df X.prog X.w X.K X.mg X.base g k ps (spW X.K)) (hr : Room k X.A) (hg : Gl X g) (h0 : ns ≠ []) (hl : ns.length ≤ 1000) (hNz : X.N[j]? = some z) (hvz : Vis X.env.scope z) (hδz : δ[j]? = some (.own (ns.map .int)))
    (hN : X.N[i]? = some y := by rfl) (hv : Vis X.env.scope y := by first | exact Or.inl rfl | exact Or.inr (Or.inl rfl) | exact Or.inr (Or.inr rfl)) (hδ : δ[i]? = some .csk := by rfl) (hd : (y == ("__debug__" : Str)) = false := by decide) (hcd : (y == ("__classdict__" : Str)) = false := by decide) (hdz : (z == ("__debug__" : Str)) = false := by decide) (hcdz : (z == ("__classdict__" : Str)) = false := by decide)
    (hdb : (g == ("__debug__" : Str)) = false := by decide) (he : starEach (.Name y pn :: [.Name z p2]) X.env = (false, eval (.Name y pn) X.env) :: starEach [.Name z p2] X.env := by rfl) (he2 : starEach (Expr.Name z p2 :: []) X.env = (false, eval (.Name z p2) X.env) :: starEach [] X.env := by rfl) (hpl : (backTo pos (starEach [Expr.Name z p2] X.env)).any (·.1) = false := by rfl) : ED X c (.Call (.Name g p) [.Name y pn, .Name z p2] [] pos) δ (fun d => ∃ j, d = .int j ∧ j ∈ ns) := by
  obtain ⟨f, fd, F, hm, hk, hb⟩ := F.ex
  refine pe_imp (pe_call F hr hg hm hk hb .nil pass0 (pa_cons (pe_var hN hv hd hcd) (pa_cons (pe_var hNz hvz hdz hcdz) pa_nil he2) he) hdb he hpl) fun σ H Q ⟨⟨H0, r⟩, q⟩ => ?_
  obtain ⟨pc, hc, g1⟩ := r.at_ i _ hδ
  obtain ⟨l, vs, k1, k2, k3, k4⟩ := r.at_ j _ hδz
  rw [k4.ints] at k3
  exact ⟨_, g1, _, k1, pc, l, ns, rfl, r.cask hc, fun e => r.nc k2 (by rw [hc, e]), k3, h0, hl, fun j H' x' hj => q _ _ H' (hc ▸ x') (.int j) ⟨j, rfl, hj⟩⟩
end
end WL

set_option maxRecDepth 100000
set_option maxHeartbeats 4000000
namespace WL
open PySem PySem.Spec PyProof.Rows L2
section
variable {X : Cx} {c : Option Addr} {δ : List Slot} {a b e : Expr} {pos : Pos} {P1 P2 P3 : Int → Prop}
theorem ed_int2 {g : Int → Int → Int} (h : ED X c e δ fun d => ∃ i j, d = .int (g i j) ∧ P1 i ∧ P2 j) (k : ∀ i j, P1 i → P2 j → P3 (g i j)) : ED X c e δ fun d => ∃ i, d = .int i ∧ P3 i := ED.mono h fun d ⟨i, j, e, h1, h2⟩ => ⟨_, e, k i j h1 h2⟩
theorem ed_addI (ha : ED X c a δ fun d => ∃ i, d = .int i ∧ P1 i) (hb : ED X c b δ fun d => ∃ i, d = .int i ∧ P2 i) (k : ∀ i j, P1 i → P2 j → P3 (i + j)) : ED X c (.BinOp a .Add b pos) δ fun d => ∃ i, d = .int i ∧ P3 i := ed_int2 (ed_opI0 op_add ha hb) k
theorem ed_modI {t : Int} (ha : ED X c a δ fun d => ∃ i, d = .int i ∧ P1 i) (hb : DE X c b δ (.int t)) (ht : 0 < t) : ED X c (.BinOp a .Mod b pos) δ fun d => ∃ i, d = .int i ∧ 0 ≤ i ∧ i < t :=
  ED.mono (ed_opI op_mod ha (DE.i hb) fun i j _ e => by rw [e]; exact ht) fun d ⟨i, j, e, _, e2⟩ => ⟨_, e, by rw [e2]; exact Int.emod_nonneg _ (by omega), by rw [e2]; exact Int.emod_lt_of_pos _ ht⟩
theorem small_mul {i j : Int} (h : -(2 ^ 60) ≤ i ∧ i ≤ 2 ^ 60) : CMul i j := .inl (by omega)
theorem small_mulR {i j : Int} (h : -(2 ^ 60) ≤ j ∧ j ≤ 2 ^ 60) : CMul i j := .inr (by omega)
theorem ED.tr (h : ED X c e δ fun d => ∃ i, d = .int i ∧ P1 i) : ED X c e δ fun d => ∃ i, d = .int i ∧ True := ED.mono h fun d ⟨i, e, _⟩ => ⟨i, e, True.intro⟩
end
section
variable {P : Program} {w : World} {K : PySem.W.Frag} {mg : Str → Option Value} {base : Heap}
abbrev s_law_tap : Stmt := topS 49
theorem c_law_tap : FnScope ["_law_cask_here", "_law_top", "_law_old", "_law_figure"] ["_law_cask_here", "_law_top"] (defScope s_law_tap) := ⟨rfl, rfl, rfl, by decide +kernel, rfl, by decide +kernel, by decide +kernel⟩
def S_tap (ds : List PyData) (R : Rt → Prop) : Prop := ∃ t : Int, 0 < t ∧ t ≤ 1000 ∧ ds = [.int t] ∧ R = fun r => ∃ i : Int, r = .dat (.int i) ∧ 0 ≤ i ∧ i < t
theorem f_law_tap (B : Bi mg) (T : Tx K mg "_law_tap" s_law_tap) : Df P w K mg base "_law_tap" 1 ["_law_cask_here", "_law_top"] (spC K 1 S_tap) := by
  refine dfC T c_law_tap rfl (fun _ _ _ _ _ _ us hl => match us, hl with | [_, _], _ => rfl) fun f cdv A outer s H E ds R p hr hS hl => ?_
  obtain ⟨t, t0, t1, rfl, rfl⟩ := hS
  refine sds_cons (sd_ckset 0 (ed_addI (ed_ck 0) (DE.i de_int) fun _ _ _ _ => True.intro) ?_)
  refine sds_cons (sd_set c_law_tap.nd (i := 2) rfl (by exact Or.inl rfl) (ed_int1 (by rfl) B.int b_int (ed_ck 0)) fun d hd => ?_)
  obtain ⟨o, rfl, _⟩ := hd
  refine sds_cons (sd_ckset 0 (ED.tr (ed_modI (t := 2147482819) (ed_int1 (P1 := fun _ => True) (by rfl) B.int b_int (ed_addI (P1 := fun _ => True) (ed_addI (P1 := fun _ => True) (P2 := fun _ => True) (ED.tr (DE.i (de_mul (de_var 2) (de_add (de_mod (de_int1 (by rfl) B.int b_int (da_cons (de_var 2) da_nil)) de_int (by decide)) de_int) ?_))) (ed_int2 (P3 := fun _ => True) (ed_opI op_mul (DE.i de_int) (ed_ck 0) fun i j e _ => ?_) fun _ _ _ _ => True.intro) fun _ _ _ _ => True.intro) (DE.i de_int) fun _ _ _ _ => True.intro)) de_int (by decide))) ?_)
  · have h1 := Int.emod_nonneg o (show (19013 : Int) ≠ 0 by decide)
    have h2 := Int.emod_lt_of_pos o (show (0 : Int) < 19013 by decide)
    exact small_mulR (by omega)
  · rw [e]
    exact small_mul (by decide)
  refine sds_cons (sd_if (et_cmp (ec_cmpI op_gt (ed_ck 0) (DE.i de_int))) (fun _ => ?_) fun _ => ?_)
  · refine sds_cons (sd_ckset2 0 3 rfl c_law_tap.nd (ed_divmod (t := t) (by omega) (by rfl) B.divmod b_divmod (ed_ck 0) (de_var 1)) rfl (by exact Or.inl rfl) fun u hu => ?_)
    exact sds_one (sd_retD (de_var 3) ⟨u, rfl, hu⟩)
  · refine sds_nil (sds_one (sd_ret (ed_modI (t := t) (ed_int1 (P1 := fun _ => True) (by rfl) B.int b_int (ed_int2 (P3 := fun _ => True) (ed_opI op_fdiv (ed_ck 0) (DE.i de_int) fun i j _ e => ?_) fun _ _ _ _ => True.intro)) (de_var 1) t0) fun d hd => ?_))
    · rw [e]
      exact ⟨by decide, by decide⟩
    · obtain ⟨i, rfl, h⟩ := hd
      exact ⟨i, rfl, h⟩

abbrev s_law_which : Stmt := topS 50
theorem c_law_which : FnScope ["_law_cask_here", "_law_things"] ["_law_cask_here", "_law_things"] (defScope s_law_which) := ⟨rfl, rfl, rfl, by decide +kernel, rfl, by decide +kernel, by decide +kernel⟩
theorem f_law_which (B : Bi mg) (D1 : Df P w K mg base "_law_tap" 1 ["_law_cask_here", "_law_top"] (spC K 1 S_tap)) (T : Tx K mg "_law_which" s_law_which) : Df P w K mg base "_law_which" 2 ["_law_cask_here", "_law_things"] (spW K) := by
  refine dfG T c_law_which (fun _ _ _ _ _ _ us hl => match us, hl with | [_, _], _ => rfl) (fun vs H Q E ⟨_, _, _, e, _⟩ => by rw [e]; rfl) fun f cdv A outer s H vs Q E hr ⟨p, q, ns, e, hc, hpq, hq, h0, hl, k⟩ => ?_
  subst e
  refine ⟨some p, startD _ [.csk, sRd q ns], ⟨fun _ => False, fun r => ∃ i, r = .dat (.int i) ∧ i ∈ ns, fun _ => False, fun _ => False⟩, ?_, rep_startG rfl (Nat.le_of_ble_eq_true rfl) (fun i sl hi => ?_) (fun i a o z => ?_) (fun p' e => by cases e; exact hc), ⟨fun _ _ _ _ z => z.elim, fun v H' r x' ok e => ?_, fun _ _ _ _ z => z.elim, fun _ _ _ _ z => z.elim⟩⟩
  rotate_left
  · match i, hi with
    | 0, hi =>
      cases hi
      exact ⟨p, rfl, start_at rfl⟩
    | 1, hi =>
      cases hi
      refine ⟨start_at rfl, fun x hx => ?_⟩
      have : x = (q, .lst (ns.map V.int)) := by simpa using hx
      subst this
      exact ⟨(fun z => nomatch z), fun e => hpq (Option.some.inj e), hq, fun _ => rfl⟩
  · match i, z with
    | 0, z => exact z
    | 1, z => exact z
  · obtain ⟨i, rfl, hi⟩ := e
    cases ok
    exact k i H' x' hi
  have hlen : 0 < ns.length := List.length_pos_iff.mpr h0
  refine sds_one (sd_ret (R := fun d => ∃ i, d = .int i ∧ i ∈ ns) (ed_ixR (P := fun i => 0 ≤ i ∧ i < (ns.length : Int)) (dr_rd 1) (ed_cc 0 D1 (hr.mono (by omega)) (by rfl) (da_cons (de_lenR (by rfl) B.len b_len (ar_one (dr_rd 1))) da_nil) fun ds hds => ?_) fun ds i hds hi => ?_) fun d ⟨i, e, hi⟩ => ⟨i, by rw [e], hi⟩)
  · subst hds
    refine ⟨rfl, _, ⟨_, ?_, ?_, rfl, rfl⟩, fun r ⟨i, e, h1, h2⟩ => ⟨_, e, i, rfl, h1, by rw [dW_len] at h2; exact h2⟩⟩
    · rw [dW_len]; omega
    · rw [dW_len]; omega
  · subst hds
    obtain ⟨j, rfl⟩ : ∃ j : Nat, i = (j : Int) := ⟨i.toNat, by omega⟩
    have hj : j < ns.length := by omega
    exact ⟨.int ns[j], atI_W (List.getElem?_eq_getElem hj), ns[j], rfl, List.getElem_mem hj⟩
end
end WL

set_option maxRecDepth 100000
set_option maxHeartbeats 4000000
namespace WL
open PySem PySem.Spec PyProof.Rows L2
theorem TpAll.erase {K : PySem.W.Frag} {H : Hp} : ∀ {vs : List V} {ds : List PyData} (k : Nat), TpAll K H vs ds → TpAll K H (vs.eraseIdx k) (ds.eraseIdx k)
  | _, _, _, .nil => .nil
  | _, _, 0, .cons _ t => t
  | _, _, k + 1, .cons r t => .cons r (TpAll.erase k t)
theorem seqIx {i : Int} {n : Nat} (h0 : 0 ≤ i) (h1 : i < (n : Int)) : seqIndex? i n = some i.toNat := seqIndex_of h0 h1
section
variable {X : Cx} {c : Option Addr} {δ : List Slot} {D : DEnds} {a b e : Expr} {es : List Expr} {pos pos' p p2 pn pz : Pos} {d : PyData} {ds ds1 ds2 : List PyData} {L : List PyData → Prop} {R : PyData → Prop} {x y z g : Str} {i j k n : Nat}
/-- the pop of one's own list at a place -/
theorem pop_rep {K : PySem.W.Frag} {H0 H : Hp} {σ : L2.St} (r : Rep c K H0 H σ δ) (hδ : δ[j]? = some (.own ds2)) {m : Int} (h0 : 0 ≤ m) (h1 : m < (ds2.length : Int)) :
    ∃ q vs v d, σ[j]? = some (some (.ref q)) ∧ H q = some (.lst vs) ∧ seqIndex? m vs.length = some m.toNat ∧ vs[m.toNat]? = some v ∧ ds2[m.toNat]? = some d ∧ Te H (upd H q (.lst (vs.eraseIdx m.toNat))) ∧ Tp K (upd H q (.lst (vs.eraseIdx m.toNat))) v d ∧ Rep c K H0 (upd H q (.lst (vs.eraseIdx m.toNat))) σ (δ.set j (.own (ds2.eraseIdx m.toNat))) := by
  obtain ⟨q, vs, k1, k2, k3, k4⟩ := r.at_ j _ hδ
  have hl := k4.len
  have hlt : m.toNat < vs.length := by omega
  obtain ⟨d, g1, g2⟩ := k4.get (List.getElem?_eq_getElem hlt)
  have te : Te H (upd H q (.lst (vs.eraseIdx m.toNat))) := mutO_te (P := fun a => a = q) (fun a o n h => by rw [upd_ne n]; exact h) fun a e o h => by rw [e, k3] at h; cases h; rfl
  exact ⟨q, vs, _, d, k1, k3, seqIx h0 (by omega), List.getElem?_eq_getElem hlt, g1, te, Tp.te te _ _ g2, r.mut hδ k1 (k4.erase _)⟩
/-- x.append(z.pop(e)) -/
theorem sd_popAppend (i j : Nat) {apos cpos apos2 cpos2 : Pos} (he : ED X c e δ (fun d => ∃ m, d = .int m ∧ 0 ≤ m ∧ m < (ds2.length : Int))) (hij : i ≠ j) (hl : ds1.length ≤ 1000) (hl2 : ds2.length ≤ 1000) (h : ∀ (k : Nat) d, ds2[k]? = some d → D.nx ((δ.set j (.own (ds2.eraseIdx k))).set i (.own (ds1 ++ [d]))))
    (hδi : δ[i]? = some (.own ds1)) (hδj : δ[j]? = some (.own ds2)) (hNi : X.N[i]? = some x := by rfl) (hvi : Vis X.env.scope x := by first | exact Or.inl rfl | exact Or.inr (Or.inl rfl) | exact Or.inr (Or.inr rfl)) (hNj : X.N[j]? = some z := by rfl) (hvj : Vis X.env.scope z := by first | exact Or.inl rfl | exact Or.inr (Or.inl rfl) | exact Or.inr (Or.inr rfl))
    (hd : (x == ("__debug__" : Str)) = false := by decide) (hcd : (x == ("__classdict__" : Str)) = false := by decide) (hdz : (z == ("__debug__" : Str)) = false := by decide) (hcdz : (z == ("__classdict__" : Str)) = false := by decide)
    (hbase : attributeBase (.Name x pn) "append" X.env (eval (.Name x pn) X.env) = eval (.Name x pn) X.env := by rfl)
    (hfew : ((backTo cpos (starEach [Expr.Call (.Attribute (.Name z pz) "pop" apos2) [e] [] cpos2] X.env)).all (fun x => !x.1) && (backToKw cpos (keywordEach [] X.env)).all (fun x => x.1.isSome)
      && decide (([Expr.Call (.Attribute (.Name z pz) "pop" apos2) [e] [] cpos2] : List Expr).length + ([] : List Keyword).length + (if ([] : List Keyword).isEmpty then 0 else 1) < 30)) = true := by rfl)
    (hline : (apos.endLine == cpos.line) = true := by rfl) (hs : starEach [Expr.Call (.Attribute (.Name z pz) "pop" apos2) [e] [] cpos2] X.env = (false, eval (Expr.Call (.Attribute (.Name z pz) "pop" apos2) [e] [] cpos2) X.env) :: starEach [] X.env := by rfl) (hplain : (backTo cpos (starEach [] X.env)).any (·.1) = false := by rfl)
    (hbase2 : attributeBase (.Name z pz) "pop" X.env (eval (.Name z pz) X.env) = eval (.Name z pz) X.env := by rfl)
    (hfew2 : ((backTo cpos2 (starEach [e] X.env)).all (fun x => !x.1) && (backToKw cpos2 (keywordEach [] X.env)).all (fun x => x.1.isSome)
      && decide (([e] : List Expr).length + ([] : List Keyword).length + (if ([] : List Keyword).isEmpty then 0 else 1) < 30)) = true := by rfl)
    (hline2 : (apos2.endLine == cpos2.line) = true := by rfl) (hs2 : starEach [e] X.env = (false, eval e X.env) :: starEach [] X.env := by rfl) (hplain2 : (backTo cpos2 (starEach [] X.env)).any (·.1) = false := by rfl)
    (hsw : swapsWith (.Call (.Attribute (.Name x pn) "append" apos) [.Call (.Attribute (.Name z pz) "pop" apos2) [e] [] cpos2] [] cpos) none pos.line X.env = pure false := by rfl) :
    SD X c (.Expr (.Call (.Attribute (.Name x pn) "append" apos) [.Call (.Attribute (.Name z pz) "pop" apos2) [e] [] cpos2] [] cpos) pos) δ D :=
  ps_imp (ps_expr (pe_bm PySem.F.plainAttrs_list PySem.F.slot_list_append PySem.F.type_list_append mt_append (pe_var hNi hvi hd hcd) (pa_cons (pe_bm PySem.F.plainAttrs_list PySem.F.slot_list_pop PySem.F.type_list_pop mt_popAt (pe_var hNj hvj hdz hcdz) (ea_cons he da_nil hs2) hbase2 hfew2 hline2 hs2 hplain2) pa_nil hs) hbase hfew hline hs hplain) hsw) fun D' σ H ⟨H0, r, kk⟩ => by
    obtain ⟨p1, vs1, a1, a2, a3, a4⟩ := r.at_ i _ hδi
    obtain ⟨p2, vs2, b1, b2, b3, b4⟩ := r.at_ j _ hδj
    refine ⟨_, a1, .inl ⟨rfl, _, SqL.of a3⟩, _, b1, .inl ⟨rfl, _, SqL.of b3⟩, ⟨H0, r⟩, fun us es H1 x1 t1 r1 => ?_⟩
    obtain ⟨d, rr, rfl, ⟨m, rfl, m0, m1⟩, rfl⟩ := r1
    cases t1 with
    | cons t1 t2 =>
      cases t2
      cases t1
      have r1 := r.mono x1
      obtain ⟨q, vs, v, d, k1, k2, k3, k4, k5, k6, k7, k8⟩ := pop_rep r1 hδj m0 m1
      rw [b1] at k1
      cases k1
      have hlen : m.toNat < ds2.length := by omega
      refine ⟨p2, vs, m, m.toNat, v, rfl, rfl, k2, by omega, by omega, k3, k4, ?_⟩
      have hδi' : (δ.set j (.own (ds2.eraseIdx m.toNat)))[i]? = some (.own ds1) := by rw [List.getElem?_set_ne (Ne.symm hij)]; exact hδi
      obtain ⟨p1', vs1', c1, c2, c3, c4⟩ := k8.at_ i _ hδi'
      rw [a1] at c1
      cases c1
      exact ⟨p1, vs1', v, rfl, rfl, c3, Nat.lt_of_le_of_lt (show vs1'.length ≤ 1000 by rw [c4.len]; exact hl) (by decide), kk.nx _ _ _ (k8.mut hδi' a1 (c4.append (.cons k7 .nil))) (h _ d k5)⟩
/-- x = x + (z.pop(e),) -/
theorem sd_popCat (i j : Nat) {apos2 cpos2 pt px : Pos} {kt : Nat} (he : ED X c e δ (fun d => ∃ m, d = .int m ∧ 0 ≤ m ∧ m < (ds2.length : Int))) (hij : i ≠ j) (hl : ds1.length ≤ 1000) (hl2 : ds2.length ≤ 1000) (h : ∀ (k : Nat) d, ds2[k]? = some d → D.nx ((δ.set j (.own (ds2.eraseIdx k))).set i (.dat (.tuple (ds1 ++ [d])))))
    (hδi : δ[i]? = some (.dat (.tuple ds1))) (hδj : δ[j]? = some (.own ds2)) (hNd : X.N.Nodup) (hxl : Loc X.env.scope x) (hNi : X.N[i]? = some x := by rfl) (hvi : Vis X.env.scope x := by first | exact Or.inl rfl | exact Or.inr (Or.inl rfl) | exact Or.inr (Or.inr rfl)) (hNj : X.N[j]? = some z := by rfl) (hvj : Vis X.env.scope z := by first | exact Or.inl rfl | exact Or.inr (Or.inl rfl) | exact Or.inr (Or.inr rfl))
    (hd : (x == ("__debug__" : Str)) = false := by decide) (hcd : (x == ("__classdict__" : Str)) = false := by decide) (hdz : (z == ("__debug__" : Str)) = false := by decide) (hcdz : (z == ("__classdict__" : Str)) = false := by decide)
    (hs : starEach [Expr.Call (.Attribute (.Name z pz) "pop" apos2) [e] [] cpos2] X.env = (false, eval (Expr.Call (.Attribute (.Name z pz) "pop" apos2) [e] [] cpos2) X.env) :: starEach [] X.env := by rfl)
    (hbase2 : attributeBase (.Name z pz) "pop" X.env (eval (.Name z pz) X.env) = eval (.Name z pz) X.env := by rfl)
    (hfew2 : ((backTo cpos2 (starEach [e] X.env)).all (fun x => !x.1) && (backToKw cpos2 (keywordEach [] X.env)).all (fun x => x.1.isSome)
      && decide (([e] : List Expr).length + ([] : List Keyword).length + (if ([] : List Keyword).isEmpty then 0 else 1) < 30)) = true := by rfl)
    (hline2 : (apos2.endLine == cpos2.line) = true := by rfl) (hs2 : starEach [e] X.env = (false, eval e X.env) :: starEach [] X.env := by rfl) (hplain2 : (backTo cpos2 (starEach [] X.env)).any (·.1) = false := by rfl)
    (hsw : swapsWith (.BinOp (.Name x pn) .Add (.Tuple [.Call (.Attribute (.Name z pz) "pop" apos2) [e] [] cpos2] kt pt) p2) (some (.Name x px)) pos.line X.env = pure false := by rfl) (hf : X.fn x = true ∨ X.env.scope.names.lookup x = some .local := by first | exact .inl rfl | exact .inr rfl | assumption) :
    SD X c (.Assign [.Name x px] (.BinOp (.Name x pn) .Add (.Tuple [.Call (.Attribute (.Name z pz) "pop" apos2) [e] [] cpos2] kt pt) p2) pos) δ D :=
  ps_imp (ps_set hNd hNi hxl (pe_op op_catA (pe_var hNi hvi hd hcd) (pe_tup (pa_cons (pe_bm PySem.F.plainAttrs_list PySem.F.slot_list_pop PySem.F.type_list_pop mt_popAt (pe_var hNj hvj hdz hcdz) (ea_cons he da_nil hs2) hbase2 hfew2 hline2 hs2 hplain2) pa_nil hs))) hsw hf) fun D' σ H ⟨H0, r, kk⟩ => by
    obtain ⟨v1, a1, a2⟩ := r.at_ i _ hδi
    obtain ⟨p2, vs2, b1, b2, b3, b4⟩ := r.at_ j _ hδj
    refine ⟨_, a1, _, b1, .inl ⟨rfl, _, SqL.of b3⟩, ⟨H0, r⟩, fun us es H1 x1 t1 r1 => ?_⟩
    obtain ⟨d, rr, rfl, ⟨m, rfl, m0, m1⟩, rfl⟩ := r1
    cases t1 with
    | cons t1 t2 =>
      cases t2
      cases t1
      have r1 := r.mono x1
      obtain ⟨q, vs, v, d, k1, k2, k3, k4, k5, k6, k7, k8⟩ := pop_rep r1 hδj m0 m1
      rw [b1] at k1
      cases k1
      refine ⟨p2, vs, m, m.toNat, v, rfl, rfl, k2, by omega, by omega, k3, k4, by show 1 ≤ sizeLine; decide, fun l hl' => ?_⟩
      have xl : ExC c _ (upd _ l (.tup [v])) := ExC.new hl'
      have r3 := k8.mono xl
      have hδi' : (δ.set j (.own (ds2.eraseIdx m.toNat)))[i]? = some (.dat (.tuple ds1)) := by rw [List.getElem?_set_ne (Ne.symm hij)]; exact hδi
      obtain ⟨v1', c1, c2⟩ := r3.at_ i _ hδi'
      rw [a1] at c1
      cases c1
      cases c2 with
      | @tup q1 xs1 _ s1 aa1 =>
        have l1 := aa1.len
        have tv : Tp X.K _ (.ref l) (.tuple [d]) := .tup (SqT.of upd_same) (.cons (Tp.te xl.te _ _ k7) .nil)
        refine ⟨_, _, _, _, rfl, rfl, s1, SqT.of upd_same, Nat.le_trans (show xs1.length + 1 ≤ 1001 by omega) (by decide), fun zz => ?_, fun _ zz => ?_, fun _ _ pq hp => ?_⟩
        · subst zz
          cases aa1
          exact kk.nx _ _ _ (r3.setD i tv) (h _ d k5)
        · cases zz
        · have xq : ExC c _ (upd _ pq (.tup (xs1 ++ [v]))) := ExC.new hp
          exact kk.nx _ _ _ ((r3.mono xq).setD i (.tup (SqT.of upd_same) (TpAll.te xq.te _ _ (aa1.append (.cons (Tp.te xl.te _ _ k7) .nil))))) (h _ d k5)
/-- list(range(a, b)) -/
theorem df_listRg {lo hi : Int} {pr : Pos} (hc : X.calm = true) (hg : Gl X "list") (hm : X.mg "list" = none) (hgr : Gl X "range") (hmr : X.mg "range" = none) (ha : DE X c a δ (.int lo)) (hb : DE X c b δ (.int hi)) (h1 : 0 ≤ lo ∧ lo ≤ 1000 ∧ 0 ≤ hi ∧ hi ≤ 1000)
    (na : starEach [Expr.Call (.Name "range" pr) [a, b] [] p2] X.env = (false, eval (Expr.Call (.Name "range" pr) [a, b] [] p2) X.env) :: starEach [] X.env := by rfl) (na1 : starEach [a, b] X.env = (false, eval a X.env) :: starEach [b] X.env := by rfl)
    (nb : starEach [b] X.env = (false, eval b X.env) :: starEach [] X.env := by rfl) (hp : (backTo p2 (starEach [b] X.env)).any (·.1) = false := by rfl) :
    DF X c (.Call (.Name "list" p) [.Call (.Name "range" pr) [a, b] [] p2] [] pos) δ (rangeD lo (hi - lo).toNat) := pe_imp (pe_listRg hc hg hm (prg_2 hgr hmr ha hb na1 nb hp) na) fun σ H Q ⟨⟨H0, r⟩, q⟩ => by
  refine ⟨⟨H0, r⟩, fun w d2 H2 x2 t2 e2 => ?_⟩
  subst e2
  cases t2
  refine ⟨⟨H0, r.mono x2⟩, fun w d3 H3 x3 t3 e3 => ?_⟩
  subst e3
  cases t3
  have x23 := x2.trans x3
  refine ⟨lo, hi, rfl, rfl, RgOk.of_le h1.1 (by omega) (by omega) (by omega), fun l hl => ?_⟩
  refine q l _ _ _ (x23.back ((r.mono x23).fresh hl).2 hl) (x23.trans (ExC.new hl)) upd_same ?_ rfl
  unfold rgV rangeD
  have key : ∀ (ns : List Nat) (H : Hp), TpAll X.K H (ns.map fun (i : Nat) => V.int (lo + (i : Nat))) (ns.map fun (i : Nat) => PyData.int (lo + i)) := fun ns H => by
    induction ns with
    | nil => exact .nil
    | cons n ns ih => exact .cons (.int _) ih
  exact key _ _
/-- a number in a new list of numbers -/
theorem ec_in {m : Int} {ns : List Int} (ha : DE X c a δ (.int m)) (hb : DF X c b δ (ns.map .int)) : EC X c .In a b δ (fun _ => True) := pc_imp (pc_of op_in_seq ha hb) fun σ H Q ⟨⟨H0, r⟩, q⟩ => by
  refine ⟨⟨H0, r⟩, fun w d2 H2 x2 t2 e2 => ?_⟩
  subst e2
  cases t2
  refine ⟨⟨H0, r.mono x2⟩, fun l vs ds H3 n3 x3 y3 t3 e3 => ?_⟩
  subst e3
  rw [t3.ints] at y3
  refine ⟨l, _, rfl, .inl (SqL.of y3), rfl, ?_, q _ _ H3 (x2.trans x3) (.bl _) ⟨_, rfl, True.intro⟩⟩
  rw [List.all_eq_true]
  intro v hv
  obtain ⟨n, _, rfl⟩ := List.mem_map.mp hv
  rfl
end
end WL

set_option maxRecDepth 100000
set_option maxHeartbeats 4000000
namespace WL
open PySem PySem.Spec PyProof.Rows L2
section
variable {X : Cx} {c : Option Addr} {δ : List Slot} {D D2 : DEnds} {st : Stmt} {rest : List Stmt} {a b e : Expr} {es : List Expr} {pos p p2 pn : Pos} {d : PyData} {ds : List PyData} {L La : List PyData → Prop} {R : PyData → Prop} {x y : Str} {i k n : Nat} {ps : List Str} {S : List PyData → Rt → Prop}
theorem SD.nx {P : List Slot → Prop} (h : SD X c st δ { D with nx := P }) (k : ∀ δ', P δ' → D.nx δ') : SD X c st δ D := ps_imp h fun D' σ H ⟨H0, r, kk⟩ => ⟨H0, r, ⟨fun σ' H' δ' r' q => kk.nx σ' H' δ' r' (k δ' q), kk.rt, kk.bk, kk.ct⟩⟩
/-- one statement, what it leaves, the others -/
theorem sds_seq (P : List Slot → Prop) (h1 : SD X c st δ { D with nx := P }) (h2 : ∀ δ', P δ' → SDs X c rest δ' D) : SDs X c (st :: rest) δ D := sds_cons (SD.nx (D := { D with nx := fun δ' => SDs X c rest δ' D }) h1 h2)
theorem EA.mono (h : EA X c es δ L) (k : ∀ d, L d → La d) : EA X c es δ La := pa_imp h fun _ _ _ q => ⟨q.1, fun v d H' x t r => q.2 v d H' x t (k d r)⟩
theorem ints_of {P1 : Int → Prop} : ∀ {es : List PyData}, (∀ e ∈ es, ∃ i, e = .int i ∧ P1 i) → ∃ ns : List Int, es = ns.map .int ∧ ∀ i ∈ ns, P1 i
  | [], _ => ⟨[], rfl, fun i h => nomatch h⟩
  | e :: es, h => by
    obtain ⟨i, rfl, hi⟩ := h e List.mem_cons_self
    obtain ⟨ns, rfl, hn⟩ := ints_of (es := es) fun e he => h e (List.mem_cons_of_mem _ he)
    refine ⟨i :: ns, rfl, fun j hj => ?_⟩
    rcases List.mem_cons.mp hj with rfl | hj
    · exact hi
    · exact hn j hj
/-- a call whose arguments are told in part: a new list -/
theorem ef_cdN (F : Df X.prog X.w X.K X.mg X.base x k ps (spR X.K n S)) (hr : Room k X.A) (hg : Gl X x) (ha : EA X c (e :: es) δ L) (h : ∀ ds, L ds → ds.length = n ∧ ∃ rs, S ds (.lst rs) ∧ La rs)
    (hdb : (x == ("__debug__" : Str)) = false := by decide) (he : starEach (e :: es) X.env = (false, eval e X.env) :: starEach es X.env := by rfl) (hpl : (backTo pos (starEach es X.env)).any (·.1) = false := by rfl) : EF X c (.Call (.Name x p) (e :: es) [] pos) δ La := by
  obtain ⟨f, fd, F, hm, hk, hb⟩ := F.ex
  refine pe_imp (pe_call F hr hg hm hk hb .nil pass0 ha hdb he hpl) fun σ H Q ⟨⟨H0, rp⟩, q⟩ => ?_
  refine ⟨⟨H0, rp⟩, fun vs ds' H1 x1 t1 r1 => ?_⟩
  obtain ⟨hl, rs, hS, hLa⟩ := h ds' r1
  rw [List.append_nil]
  refine ⟨by rw [t1.len]; exact hl, ds', _, t1, hS, fun v H' x ok => ?_⟩
  obtain ⟨p, us, rfl, h1, h2, h3⟩ := ok
  exact q p us rs H' (x1.back ((rp.mono x1).fresh h1).2 h1) (x1.trans (ExC.none x)) h2 h3 hLa
/-! lists of ints that are only read -/
theorem sq_fr {K : PySem.W.Frag} {H : Hp} {q : Addr} {xs : List V} (h : SqL K H q xs) : ∃ fr : List (Addr × HO), (∀ x ∈ fr, x.1 = q ∧ H x.1 = some x.2) ∧ ∀ H', (∀ x ∈ fr, H' x.1 = some x.2) → SqL K H' q xs := by
  rcases h with (h | ⟨o, h⟩) | h
  · refine ⟨[(q, .lst xs)], fun x hx => ?_, fun H' k => .inl (.inl (k _ List.mem_cons_self))⟩
    have : x = (q, .lst xs) := by simpa using hx
    subst this
    exact ⟨rfl, h⟩
  · refine ⟨[(q, .frz o (.lst xs))], fun x hx => ?_, fun H' k => .inl (.inr ⟨o, k _ List.mem_cons_self⟩)⟩
    have : x = (q, .frz o (.lst xs)) := by simpa using hx
    subst this
    exact ⟨rfl, h⟩
  · exact ⟨[], (fun x hx => nomatch hx), fun H' _ => .inr h⟩
/-- a slot that reads a list -/
def isRd (K : PySem.W.Frag) (c : Option Addr) (s : Slot) (ns : List Int) : Prop := ∃ q fr, s = .frg false q fr ∧ c ≠ some q ∧ ∀ H', (∀ x ∈ fr, H' x.1 = some x.2) → SqL K H' q (ns.map V.int)
theorem dr_sq {s : Slot} {ns : List Int} (i : Nat) (hs : isRd X.K c s ns) (hN : X.N[i]? = some y := by rfl) (hv : Vis X.env.scope y := by first | exact Or.inl rfl | exact Or.inr (Or.inl rfl) | exact Or.inr (Or.inr rfl)) (hδ : δ[i]? = some s := by rfl) (hd : (y == ("__debug__" : Str)) = false := by decide) (hcd : (y == ("__classdict__" : Str)) = false := by decide) :
    DR X c (.Name y pn) δ (ns.map .int) := pe_imp (pe_var hN hv hd hcd) fun σ H Q ⟨⟨H0, r⟩, q⟩ => by
  obtain ⟨l, fr, rfl, hc, hk⟩ := hs
  obtain ⟨g1, g2⟩ := r.at_ i _ hδ
  exact ⟨_, g1, q _ _ _ H hc ExC.refl (hk H fun x hx => (g2 x hx).at_) (TpAll.of_ints ns) rfl⟩
theorem ed_abs {P1 : Int → Prop} (hg : Gl X x) (hm : X.mg x = none) (hv : bootBuiltins x = some (.builtin "abs")) (ha : ED X c a δ fun d => ∃ i, d = .int i ∧ P1 i)
    (hn : x ≠ "__name__" := by decide) (hdb : (x == ("__debug__" : Str)) = false := by decide) (he : starEach [a] X.env = (false, eval a X.env) :: starEach [] X.env := by rfl) (hpl : (backTo pos (starEach [] X.env)).any (·.1) = false := by rfl) :
    ED X c (.Call (.Name x p) [a] [] pos) δ (fun d => ∃ i, d = .int i ∧ True) := ed_callB call_abs hg hm hv (ea_cons ha da_nil he) (fun H vs es Q t ⟨d, r, k1, ⟨i, k2, k3⟩, k4⟩ q => by
  subst k1 k2 k4
  cases t with
  | cons t1 t2 =>
    cases t2
    cases t1
    exact ⟨i, rfl, q _ _ H ExC.refl (.int _) ⟨_, rfl, True.intro⟩⟩) hn hdb he hpl
end
end WL

set_option maxRecDepth 100000
set_option maxHeartbeats 4000000
namespace WL
open PySem PySem.Spec PyProof.Rows L2
section
variable {X : Cx} {c : Option Addr} {δ : List Slot} {e : Expr} {pos p pn : Pos} {y : Str} {P1 : Int → Prop}
/-- a drawn number -/
theorem ed_tap (i : Nat) (F : Df X.prog X.w X.K X.mg X.base "_law_tap" 1 ["_law_cask_here", "_law_top"] (spC X.K 1 S_tap)) (hr : Room 1 X.A) (hg : Gl X "_law_tap") (P1 : Int → Prop) (hP : ∀ t, P1 t → 0 < t ∧ t ≤ 1000) (ha : ED X c e δ fun d => ∃ t, d = .int t ∧ P1 t)
    (hN : X.N[i]? = some y := by rfl) (hv : Vis X.env.scope y := by first | exact Or.inl rfl | exact Or.inr (Or.inl rfl) | exact Or.inr (Or.inr rfl)) (hδ : δ[i]? = some .csk := by rfl) (hd : (y == ("__debug__" : Str)) = false := by decide) (hcd : (y == ("__classdict__" : Str)) = false := by decide)
    (he : starEach (.Name y pn :: [e]) X.env = (false, eval (.Name y pn) X.env) :: starEach [e] X.env := by rfl) (he2 : starEach (e :: []) X.env = (false, eval e X.env) :: starEach [] X.env := by rfl) (hpl : (backTo pos (starEach [e] X.env)).any (·.1) = false := by rfl) :
    ED X c (.Call (.Name "_law_tap" p) [.Name y pn, e] [] pos) δ (fun d => ∃ j, d = .int j ∧ ∃ t, 0 ≤ j ∧ j < t ∧ P1 t) :=
  ed_cc i F hr hg (ea_cons ha da_nil he2) (fun ds hds => by
    obtain ⟨d, r, rfl, ⟨t, rfl, ht⟩, rfl⟩ := hds
    exact ⟨rfl, _, ⟨t, (hP t ht).1, (hP t ht).2, rfl, rfl⟩, fun r ⟨i, e, h1, h2⟩ => ⟨_, e, i, rfl, t, h1, h2, ht⟩⟩) hN hv hδ hd hcd (by decide) he hpl
end
/-- letters, as data -/
def Wi (ds : List PyData) : Prop := ds.length ≤ 12 ∧ ∀ i : Int, PyData.int i ∈ ds → 1 ≤ i ∧ i ≤ 12
theorem Wd.wi {w : List Int} (h : Wd w) : Wi (w.map .int) := ⟨by rw [List.length_map]; exact h.1, fun i hi => by
  obtain ⟨j, hj, e⟩ := List.mem_map.mp hi
  cases e
  exact h.2 _ hj⟩
theorem Wi.wd {w : List Int} (h : Wi (w.map .int)) : Wd w := ⟨by have := h.1; rwa [List.length_map] at this, fun i hi => h.2 i (List.mem_map.mpr ⟨i, hi, rfl⟩)⟩
theorem Wd.nil : Wd [] := ⟨Nat.zero_le _, fun x hx => nomatch hx⟩
theorem erase_map {α β : Type} (f : α → β) : ∀ (l : List α) (k : Nat), (l.map f).eraseIdx k = (l.eraseIdx k).map f
  | [], _ => rfl
  | _ :: _, 0 => rfl
  | a :: l, k + 1 => congrArg (f a :: ·) (erase_map f l k)
section
variable {P : Program} {w : World} {K : PySem.W.Frag} {mg : Str → Option Value} {base : Heap}
abbrev DTap (P : Program) (w : World) (K : PySem.W.Frag) (mg : Str → Option Value) (base : Heap) : Prop := Df P w K mg base "_law_tap" 1 ["_law_cask_here", "_law_top"] (spC K 1 S_tap)
abbrev DWhich (P : Program) (w : World) (K : PySem.W.Frag) (mg : Str → Option Value) (base : Heap) : Prop := Df P w K mg base "_law_which" 2 ["_law_cask_here", "_law_things"] (spW K)
abbrev s_law_letters : Stmt := topS 51
theorem c_law_letters : FnScope ["_law_cask_here", "_law_most_long", "_law_size", "_law_top", "_law_k", "_law_found", "_law_how", "_law_rest"] ["_law_cask_here", "_law_most_long"] (defScope s_law_letters) := ⟨rfl, rfl, rfl, by decide +kernel, rfl, by decide +kernel, by decide +kernel⟩
def S_letters (ds : List PyData) (R : Rt → Prop) : Prop := ds = [.int 12] ∧ R = fun r => ∃ w, Wd w ∧ r = .dat (dW w)
theorem f_law_letters (B : Bi mg) (D1 : DTap P w K mg base) (D2 : DWhich P w K mg base) (T : Tx K mg "_law_letters" s_law_letters) : Df P w K mg base "_law_letters" 3 ["_law_cask_here", "_law_most_long"] (spC K 1 S_letters) := by
  refine dfC T c_law_letters rfl (fun _ _ _ _ _ _ us hl => match us, hl with | [_, _], _ => rfl) fun f cdv A outer s H E ds R p hr hS hl => ?_
  obtain ⟨rfl, rfl⟩ := hS
  refine sds_cons (sd_set c_law_letters.nd (i := 2) rfl (by exact Or.inl rfl) (ed_tap 0 D1 (hr.mono (by omega)) (by rfl) (fun t => 1 ≤ t ∧ t ≤ 13) (fun t h => by omega)
    (ed_addI (P1 := fun t => 0 ≤ t ∧ t ≤ 12) (P2 := fun t => t = 1) (ED.mono (ed_min2 (P1 := fun i => i = 12) (P2 := fun j => 0 ≤ j ∧ j ≤ 12) rfl (by rfl) B.min b_min
      (EA.mono (ea_cons (DE.i (de_var 1)) (ea_cons (ed_which 0 D2 (hr.mono (by omega)) (by rfl) (ns := [3, 5, 6, 6, 6, 12]) (df_lst (da_cons de_int (da_cons de_int (da_cons de_int (da_cons de_int (da_cons de_int (da_cons de_int da_nil)))))) (le5 rfl)) (by decide) (by decide)) da_nil))
        fun ds ⟨d, r, e1, ⟨i, e2, h2⟩, d', r', e3, ⟨j, e4, h4⟩, e5⟩ => ⟨i, j, by rw [e1, e2, e3, e4, ← e5], h2, by simp at h4; omega⟩))
      fun d ⟨i, j, e, h1, h2⟩ => ⟨_, e, by subst h1; split <;> omega⟩) (DE.i de_int) fun i j h1 h2 => by omega)) fun d hd => ?_)
  obtain ⟨sz, rfl, t, s0, s1, t0⟩ := hd
  obtain ⟨n, rfl⟩ : ∃ n : Nat, sz = (n : Int) := ⟨sz.toNat, by omega⟩
  have hn : n ≤ 12 := by omega
  refine sds_cons (sd_set c_law_letters.nd (i := 3) rfl (by exact Or.inr rfl) (ed_which 0 D2 (hr.mono (by omega)) (by rfl) (ns := [2, 3, 3, 4, 6, 12]) (df_lst (da_cons de_int (da_cons de_int (da_cons de_int (da_cons de_int (da_cons de_int (da_cons de_int da_nil)))))) (le5 rfl)) (by decide) (by decide)) fun d hd => ?_)
  obtain ⟨top, rfl, htop⟩ := hd
  have htop : 1 ≤ top ∧ top ≤ 12 := by simp at htop; omega
  refine sds_cons (sd_setLc (i := 5) (A := gN 4) (own := [("_law_k", 4)]) (L := Eq (rangeD 0 (n : Int).toNat)) (f := fun _ => true) (Rl := fun _ e => ∃ i, e = .int i ∧ 1 ≤ i ∧ i ≤ 12) rfl c_law_letters.nd rfl rfl (sw_true rfl rfl rfl rfl) (di_range1 (by rfl) B.range (da_cons (de_var 2) da_nil) (by omega)) (blkOk_by (by rfl))
    (fun s H C cl fp => eg_name c_law_letters.nd rfl (by exact Or.inl rfl) (by decide)) (fun ds hds => ⟨by subst hds; rw [rangeD_len]; omega, fun d hd => ⟨?_⟩⟩) fun ds es hds hes => ?_)
  · exact ⟨_, rfl, fun s H C cl fp => pts_nilD rfl, fun _ s H C cl fp => ed_addI (P1 := fun i => i = 1) (DE.i de_int) (ed_tap 0 D1 (hr.mono (by omega)) (by rfl) (fun t => t = top) (fun t h => by omega) (DE.i (de_var 3))) fun i j h1 ⟨t, h2, h3, h4⟩ => by omega⟩
  obtain ⟨ns, rfl, hns⟩ := ints_of (paired_all hes)
  have hw0 : Wd ns := ⟨by
    have h1 := Paired.length hes
    have h2 := List.length_filter_le (fun _ => true) ds
    rw [← hds, Int.toNat_natCast] at h2 h1
    rw [rangeD_len] at h2
    rw [List.length_map] at h1
    omega, hns⟩
  clear hes hns hds ds
  refine sds_cons (sd_set c_law_letters.nd (i := 6) rfl (by exact Or.inl rfl) (ed_tap 0 D1 (hr.mono (by omega)) (by rfl) (fun t => t = 9) (fun t h => by omega) (DE.i de_int)) fun d hd => ?_)
  obtain ⟨h, rfl, _⟩ := hd
  refine sds_seq (fun δ' => ∃ (ns : List Int) (s4 s7 : Slot), Wd ns ∧ δ' = [.csk, .dat (.int 12), .dat (.int (n : Int)), .dat (.int top), s4, .own (ns.map .int), .dat (.int h), s7]) (sd_if (et_cmp (dc_eq (u64 hr) (de_var 6) de_int rfl rfl)) (fun _ => ?_) fun _ => sds_nil ⟨ns, _, _, hw0, rfl⟩) fun δ' hδ => ?_
  · refine sds_one (sd_setF c_law_letters.nd (i := 5) rfl (by exact Or.inl rfl) (ef_sortedR (La := Wi) (by rfl) B.sorted b_sorted (ar_one (ER.mono (dr_own 5) fun ds k => ⟨ns, k.symm, by have := hw0.1; omega, by rw [← k]; exact hw0.wi⟩))) fun es ⟨ms', ms, h1, h2, h3, _⟩ => ?_)
    subst h2
    exact ⟨ms, _, _, (Wi.wd h1).perm h3, rfl⟩
  obtain ⟨ns1, s4, s7, hw1, rfl⟩ := hδ
  refine sds_seq (fun δ' => ∃ (ns : List Int) (s4 s7 : Slot), Wd ns ∧ δ' = [.csk, .dat (.int 12), .dat (.int (n : Int)), .dat (.int top), s4, .own (ns.map .int), .dat (.int h), s7]) (sd_if (et_cmp (dc_eq (u64 hr) (de_var 6) de_int rfl rfl)) (fun _ => ?_) fun _ => sds_nil ⟨ns1, _, _, hw1, rfl⟩) fun δ' hδ => ?_
  · refine sds_one (sd_setF c_law_letters.nd (i := 5) rfl (by exact Or.inl rfl) (ef_revR (er_fresh (ef_sortedR (La := Wi) (by rfl) B.sorted b_sorted (ar_one (ER.mono (dr_own 5) fun ds k => ⟨ns1, k.symm, by have := hw1.1; omega, by rw [← k]; exact hw1.wi⟩))))) fun es ⟨es', ⟨ms', ms, h1, h2, h3, _⟩, h4⟩ => ?_)
    subst h4 h2
    rw [← List.map_reverse]
    exact ⟨ms.reverse, _, _, ((Wi.wd h1).perm h3).perm (List.reverse_perm ms), rfl⟩
  obtain ⟨ns2, s4', s7', hw2, rfl⟩ := hδ
  refine sds_seq (fun δ' => ∃ (ns : List Int) (s4 s7 : Slot), Wd ns ∧ δ' = [.csk, .dat (.int 12), .dat (.int (n : Int)), .dat (.int top), s4, .own (ns.map .int), .dat (.int h), s7]) (sd_if (et_cmp (ec_in (ns := [2, 3]) (de_var 6) (df_lst (da_cons de_int (da_cons de_int da_nil)) (le5 rfl))) rfl) (fun _ => ?_) fun _ => sds_nil ⟨ns2, _, _, hw2, rfl⟩) fun δ' hδ => ?_
  · refine sds_cons (sd_parFF (i := 7) (j := 5) rfl c_law_letters.nd rfl rfl (by decide) rfl rfl (df_listRg rfl (by rfl) B.list (by rfl) B.range de_int (de_add (de_var 2) de_int) (by omega)) (df_lst da_nil (Nat.zero_le _)) ?_ (by with_unfolding_all rfl))
    refine sds_one (sd_for (A := gN 4) (js := [4]) (fun ds i δ => ∃ (rs fs : List Int) (s4 : Slot), δ = [.csk, .dat (.int 12), .dat (.int (n : Int)), .dat (.int top), s4, .own (fs.map .int), .dat (.int h), .own (rs.map .int)] ∧ fs.length = i ∧ rs.length = n - i ∧ (∀ x ∈ fs, 1 ≤ x ∧ x ≤ 12) ∧ ∀ x ∈ rs, 1 ≤ x ∧ x ≤ 12) PassesOwn.never rfl
      (di_range1 (by rfl) B.range (da_cons (de_var 2) da_nil) (by omega)) (eg_name c_law_letters.nd rfl (by exact Or.inl rfl) (by decide)) (fun ds hd => ?_) (fun ds i d δ1 hd hi h1 => ?_) fun ds δ1 hd h1 => ?_)
    · refine ⟨(List.range n).map fun (i : Nat) => 1 + (i : Int), [], s4', ?_, rfl, by rw [List.length_map, List.length_range]; rfl, (fun x hx => nomatch hx), fun x hx => ?_⟩
      · rw [List.map_map]
        have e : ((n : Int) + 1 - 1).toNat = n := by omega
        show [_, _, _, _, _, _, _, Slot.own (rangeD 1 ((n : Int) + 1 - 1).toNat)] = _
        rw [e]
        rfl
      · obtain ⟨i, hi, rfl⟩ := List.mem_map.mp hx
        have := List.mem_range.mp hi
        omega
    · subst hd
      obtain ⟨rs, fs, s4, rfl, hf, hrs, w1, w2⟩ := h1
      have hin : i < n := by have := (List.getElem?_eq_some_iff.mp hi).1; rw [rangeD_len] at this; omega
      refine ⟨_, rfl, sds_one (sd_popAppend 5 7 (ED.mono (ed_tap 0 D1 (hr.mono (by omega)) (by rfl) (fun t => t = (rs.length : Int)) (fun t h => by omega) (ED.mono (de_lenR (by rfl) B.len b_len (ar_one (dr_own 7))) fun d hd => ⟨_, hd.symm, by rw [List.length_map]⟩)) fun d ⟨j, e, t, h1, h2, h3⟩ => ⟨j, e, h1, by rw [List.length_map]; omega⟩) (by decide) (by rw [List.length_map]; omega) (by rw [List.length_map]; omega) (fun k d hd => ?_) rfl rfl)⟩
      obtain ⟨x, hx, rfl⟩ := dW_got hd
      obtain ⟨hk, ex⟩ := List.getElem?_eq_some_iff.mp hx
      have hxm : x ∈ rs := List.mem_of_getElem? hx
      refine ⟨rs.eraseIdx k, fs ++ [x], .dat d, ?_, by rw [List.length_append, hf]; rfl, by rw [List.length_eraseIdx_of_lt hk]; omega, fun z hz => ?_, fun z hz => w2 z (List.mem_of_mem_eraseIdx hz)⟩
      · rw [erase_map, List.map_append]
        rfl
      · rcases List.mem_append.mp hz with m | m
        · exact w1 z m
        · have : z = x := by simpa using m
          exact this ▸ w2 x hxm
    · subst hd
      obtain ⟨rs, fs, s4, rfl, hf, hrs, w1, w2⟩ := h1
      rw [rangeD_len] at hf
      exact ⟨fs, _, _, ⟨by omega, w1⟩, rfl⟩
  obtain ⟨ns3, s4'', s7'', hw3, rfl⟩ := hδ
  exact sds_one (sd_retD (de_tupR (by rfl) B.tuple b_tuple (ar_one (dr_own 5))) ⟨ns3, hw3, rfl⟩)
end
end WL

set_option maxRecDepth 100000
set_option maxHeartbeats 4000000
namespace WL
open PySem PySem.Spec PyProof.Rows L2
section
variable {P : Program} {w : World} {K : PySem.W.Frag} {mg : Str → Option Value} {base : Heap}
abbrev s_law_mixed_by_moves : Stmt := topS 58
theorem c_law_mixed_by_moves : FnScope ["_law_cask_here", "_law_w", "_law_many", "_law_turn", "_law_some", "_law_k"] ["_law_cask_here", "_law_w", "_law_many"] (defScope s_law_mixed_by_moves) := ⟨rfl, rfl, rfl, by decide +kernel, rfl, by decide +kernel, by decide +kernel⟩
def isWord (R : Rt → Prop) : Prop := R = fun r => ∃ v, Wd v ∧ r = .dat (dW v)
def S_mixed (ds : List PyData) (R : Rt → Prop) : Prop := ∃ (w : List Int) (m : Nat), Wd w ∧ m ≤ 1000 ∧ ds = [dW w, .int (m : Int)] ∧ isWord R
def movesAt (v : List Int) : List Nat := (List.range v.length).filter fun k => (WS.after v k).isSome
theorem movesAt_data (v : List Int) : (((rangeD 0 ((v.length : Nat) : Int).toNat).filter fun d => match d with | .int k => (WS.after v k.toNat).isSome | _ => false).map id) = ((movesAt v).map fun (k : Nat) => (k : Int)).map .int := by
  rw [List.map_id, Int.toNat_natCast]
  unfold rangeD movesAt
  rw [List.filter_map, List.map_map]
  have e1 : ((fun d => match d with | PyData.int k => (WS.after v k.toNat).isSome | _ => false) ∘ fun (i : Nat) => PyData.int (0 + (i : Int))) = fun (k : Nat) => (WS.after v k).isSome := by
    funext k
    show (WS.after v (0 + (k : Int)).toNat).isSome = _
    rw [Int.zero_add, Int.toNat_natCast]
  rw [e1]
  refine List.map_congr_left fun k _ => ?_
  show PyData.int (0 + (k : Int)) = PyData.int (k : Int)
  rw [Int.zero_add]
theorem f_law_mixed_by_moves (B : Bi mg) (D2 : DWhich P w K mg base) (D3 : Df P w K mg base "_law_three" 1 ["_law_w", "_law_k"] (spR K 2 S_lthree)) (T : Tx K mg "_law_mixed_by_moves" s_law_mixed_by_moves) : Df P w K mg base "_law_mixed_by_moves" 3 ["_law_cask_here", "_law_w", "_law_many"] (spC K 2 S_mixed) := by
  refine dfC T c_law_mixed_by_moves rfl (fun _ _ _ _ _ _ us hl => match us, hl with | [_, _, _], _ => rfl) fun f cdv A outer s H E ds R p hr hS hl => ?_
  obtain ⟨w, m, hw, hm, rfl, rfl⟩ := hS
  refine sds_cons (sd_for (A := gN 3) (js := [3]) (fun ds i δ => ∃ (v : List Int) (s3 s4 s5 : Slot), δ = [.csk, .dat (dW v), .dat (.int (m : Int)), s3, s4, s5] ∧ Wd v) PassesOwn.never rfl (di_range1 (by rfl) B.range (da_cons (de_var 2) da_nil) (by omega)) (eg_name c_law_mixed_by_moves.nd rfl (by exact Or.inl rfl) (by decide)) (fun ds hd => ⟨w, .un, .un, .un, rfl, hw⟩) (fun ds i d δ1 hd hi h1 => ?_) fun ds δ1 hd h1 => ?_)
  · obtain ⟨v, s3, s4, s5, rfl, hv⟩ := h1
    have hvl := hv.1
    refine ⟨_, rfl, sds_cons (sd_setLcD (i := 4) (A := gN 5) (own := [("_law_k", 5)]) (fun d => match d with | .int k => (WS.after v k.toNat).isSome | _ => false) id rfl c_law_mixed_by_moves.nd rfl rfl rfl (di_range1 (by rfl) B.range (da_cons (de_len (by rfl) B.len b_len (da_cons (de_var 1) da_nil)) da_nil) (by rw [dW_len]; omega)) (blkOk_by (by rfl))
      (by rw [rangeD_len, dW_len]; omega) (fun s H C cl fp => eg_name c_law_mixed_by_moves.nd rfl (by exact Or.inl rfl) (by decide)) (fun d hd => ?_) ?_)⟩
    · obtain ⟨k, hk, rfl⟩ := List.mem_map.mp hd
      rw [Int.zero_add]
      refine ⟨_, rfl, fun s H C cl fp => pts_oneD (DT.to (dt_cmp (dc_neL (u64 hr) (er_fresh (df_cd D3 (hr.mono (by omega)) (by rfl) (da_cons (de_var 1) (da_cons (de_var 5) da_nil)) rfl ⟨v, k, by omega, rfl, rfl⟩)) (er_fresh (df_lst da_nil (Nat.zero_le _))) (shaped_LR _) (shaped_LR []))) ?_), fun _ s H C cl fp => de_var 5⟩
      rw [show ([] : List PyData) = ([] : List (List Int)).map dW from rfl, eqv_LR]
      show _ = (WS.after v (Int.toNat (k : Int))).isSome
      rw [Int.toNat_natCast]
      cases WS.after v k <;> rfl
    rw [dW_len, movesAt_data]
    refine sds_one (sd_ifD (k := !decide ((movesAt v).map (fun (k : Nat) => (k : Int)) = [])) (DT.to (dt_cmp (dc_neL (u64 hr) (dr_own 4) (er_fresh (df_lst da_nil (Nat.zero_le _))) (shaped_LI _) (shaped_LI []))) ?_) (fun hk => ?_) fun hk => sds_nil ⟨v, _, _, _, rfl, hv⟩)
    · rw [show ([] : List PyData) = ([] : List Int).map .int from rfl, eqv_LI]
    · have hne : (movesAt v).map (fun (k : Nat) => (k : Int)) ≠ [] := fun e => by rw [decide_eq_true e] at hk; cases hk
      have hml : ((movesAt v).map (fun (k : Nat) => (k : Int))).length ≤ 1000 := by
        rw [List.length_map]
        have : (movesAt v).length ≤ (List.range v.length).length := List.length_filter_le _ _
        rw [List.length_range] at this
        omega
      refine sds_one (sd_set c_law_mixed_by_moves.nd (i := 1) rfl (by exact Or.inr rfl) (ed_ixR (R := fun d => ∃ x, Wd x ∧ d = dW x) (P := fun i => i = 0) (er_fresh (ef_cdN (La := fun rs => ∃ x, Wd x ∧ rs = [dW x]) D3 (hr.mono (by omega)) (by rfl) (ea_cons (de_var 1) (ea_cons (ed_whichO 0 4 D2 (hr.mono (by omega)) (by rfl) hne hml rfl (by exact Or.inl rfl) rfl) da_nil))
        fun ds hds => ?_)) (DE.i de_int) fun ds i ⟨x, hx, e⟩ hi => ⟨dW x, by rw [e, hi]; rfl, x, hx, rfl⟩) fun d hd => ?_)
      · obtain ⟨d, r, rfl, rfl, d', r', rfl, ⟨j, rfl, hj⟩, rfl⟩ := hds
        obtain ⟨k, hk2, rfl⟩ := List.mem_map.mp hj
        obtain ⟨_, hs⟩ := List.mem_filter.mp hk2
        obtain ⟨x, hx⟩ := Option.isSome_iff_exists.mp hs
        exact ⟨rfl, _, ⟨v, k, by omega, rfl, rfl⟩, x, hv.after hx, by rw [hx]; rfl⟩
      · obtain ⟨x, hx, rfl⟩ := hd
        exact ⟨x, _, _, _, rfl, hx⟩
  · obtain ⟨v, s3, s4, s5, rfl, hv⟩ := h1
    exact sds_one (sd_retD (de_var 1) ⟨v, hv, rfl⟩)

abbrev s_law_other : Stmt := topS 59
theorem c_law_other : FnScope ["_law_cask_here", "_law_w", "_law_how", "_law_at", "_law_rest", "_law_found", "_law_k"] ["_law_cask_here", "_law_w"] (defScope s_law_other) := ⟨rfl, rfl, rfl, by decide +kernel, rfl, by decide +kernel, by decide +kernel⟩
def S_other (ds : List PyData) (R : Rt → Prop) : Prop := ∃ w : List Int, Wd w ∧ ds = [dW w] ∧ isWord R
theorem f_law_other (B : Bi mg) (D1 : DTap P w K mg base) (D2 : Df P w K mg base "_law_mixed_by_moves" 3 ["_law_cask_here", "_law_w", "_law_many"] (spC K 2 S_mixed)) (D3 : Df P w K mg base "_law_spelled" 1 ["_law_filled"] (spR K 1 S_wor)) (D4 : Df P w K mg base "_law_grown" 2 ["_law_w"] (spR K 1 S_rows)) (D5 : Df P w K mg base "_law_letters" 3 ["_law_cask_here", "_law_most_long"] (spC K 1 S_letters)) (T : Tx K mg "_law_other" s_law_other) : Df P w K mg base "_law_other" 4 ["_law_cask_here", "_law_w"] (spC K 1 S_other) := by
  refine dfC T c_law_other rfl (fun _ _ _ _ _ _ us hl => match us, hl with | [_, _], _ => rfl) fun f cdv A outer s H E ds R p hr hS hl => ?_
  obtain ⟨w, hw, rfl, rfl⟩ := hS
  have hwl := hw.1
  refine sds_cons (sd_set c_law_other.nd (i := 2) rfl (by exact Or.inl rfl) (ed_tap 0 D1 (hr.mono (by omega)) (by rfl) (fun t => t = 6) (fun t h => by omega) (DE.i de_int)) fun d hd => ?_)
  obtain ⟨h, rfl, _⟩ := hd
  refine sds_cons (sd_if (et_cmp (dc_lt (de_var 2) de_int)) (fun _ => ?_) fun _ => sds_nil ?_)
  · refine sds_one (sd_ret (R := fun d => ∃ v, Wd v ∧ d = dW v) (ed_cc 0 D2 (hr.mono (by omega)) (by rfl) (ea_cons (de_var 1) (ea_cons (ed_addI (P1 := fun i => i = 1) (P3 := fun i => 0 ≤ i ∧ i ≤ 1000) (DE.i de_int) (ed_tap 0 D1 (hr.mono (by omega)) (by rfl) (fun t => t = 9) (fun t h => by omega) (DE.i de_int)) fun i j h1 ⟨t, h2, h3, h4⟩ => by omega) da_nil)) fun ds hds => ?_) fun d ⟨v, hv, e⟩ => ⟨v, hv, by rw [e]⟩)
    obtain ⟨d, r, rfl, rfl, d', r', rfl, ⟨j, rfl, hj⟩, rfl⟩ := hds
    obtain ⟨m, rfl⟩ : ∃ m : Nat, j = (m : Int) := ⟨j.toNat, by omega⟩
    exact ⟨rfl, _, ⟨w, m, hw, by omega, rfl, rfl⟩, fun r ⟨v, hv, e⟩ => ⟨_, e, v, hv, rfl⟩⟩
  refine sds_cons (sd_if (et_cmp (dc_eq (u64 hr) (de_var 2) de_int rfl rfl)) (fun _ => ?_) fun _ => sds_nil ?_)
  · have sm := WS.rowsOf_small w
    have hlw := WS.wordOf_rowsOf_len w
    exact sds_one (sd_retD (de_cd D3 (hr.mono (by omega)) (by rfl) (da_cons (de_cd D4 (hr.mono (by omega)) (by rfl) (da_cons (de_var 1) da_nil) rfl ⟨w, by omega, rfl, rfl⟩) da_nil) rfl ⟨_, by omega, by have := sm.1; omega, rfl, rfl⟩) ⟨_, hw.path (WS.stepsDown_path w), rfl⟩)
  refine sds_cons (sd_if (et_cmp (dc_eq (u64 hr) (de_var 2) de_int rfl rfl)) (fun _ => ?_) fun _ => sds_nil ?_)
  · refine sds_cons (sd_set c_law_other.nd (i := 3) rfl (by exact Or.inl rfl) (ed_tap 0 D1 (hr.mono (by omega)) (by rfl) (fun t => t = (w.length : Int) + 1) (fun t h => by omega) (DE.i (de_add (DE.to (de_len (by rfl) B.len b_len (da_cons (de_var 1) da_nil)) (by rw [dW_len])) de_int))) fun d hd => ?_)
    obtain ⟨a, rfl, t, a0, a1, rfl⟩ := hd
    obtain ⟨k, rfl⟩ : ∃ k : Nat, a = (k : Int) := ⟨a.toNat, by omega⟩
    have hk : k ≤ w.length := by omega
    refine sds_one (sd_retD (de_cat (DE.to (de_cut (de_var 1) (dp_some (de_var 3)) dp_none) (by rw [cut_post _ (by rw [dW_len]; exact hk), dW_drop])) (DE.to (de_cut (de_var 1) dp_none (dp_some (de_var 3))) (by rw [cut_pre _ (by rw [dW_len]; exact hk), dW_take])) ?_) ⟨w.drop k ++ w.take k, hw.perm ?_, ?_⟩)
    · rw [dW_len, dW_len, List.length_drop, List.length_take]
      omega
    · have : (w.drop k ++ w.take k).Perm (w.take k ++ w.drop k) := List.perm_append_comm
      rwa [List.take_append_drop] at this
    · show Rt.dat (.tuple _) = Rt.dat (.tuple _)
      rw [List.map_append]
  refine sds_cons (sd_if (et_cmp (dc_eq (u64 hr) (de_var 2) de_int rfl rfl)) (fun _ => ?_) fun _ => sds_nil ?_)
  · refine sds_cons (sd_parFD (i := 4) (j := 5) rfl c_law_other.nd rfl rfl (by decide) rfl rfl (df_listT (by rfl) B.list b_list (da_cons (de_var 1) da_nil)) (de_tup da_nil (Nat.zero_le _)) ?_ (by with_unfolding_all rfl))
    refine sds_cons (sd_for (A := gN 6) (js := [6]) (fun ds i δ => ∃ (rs fs : List Int) (s6 : Slot), δ = [.csk, .dat (dW w), .dat (.int h), .un, .own (rs.map .int), .dat (dW fs), s6] ∧ fs.length = i ∧ rs.length = w.length - i ∧ (∀ x ∈ fs, 1 ≤ x ∧ x ≤ 12) ∧ ∀ x ∈ rs, 1 ≤ x ∧ x ≤ 12) PassesOwn.never rfl
      (di_range1 (by rfl) B.range (da_cons (de_len (by rfl) B.len b_len (da_cons (de_var 1) da_nil)) da_nil) (by rw [dW_len]; omega)) (eg_name c_law_other.nd rfl (by exact Or.inl rfl) (by decide)) (fun ds hd => ⟨w, [], .un, rfl, rfl, rfl, (fun x hx => nomatch hx), hw.2⟩) (fun ds i d δ1 hd hi h1 => ?_) fun ds δ1 hd h1 => ?_)
    · subst hd
      obtain ⟨rs, fs, s6, rfl, hf, hrs, w1, w2⟩ := h1
      have hin : i < w.length := by have := (List.getElem?_eq_some_iff.mp hi).1; rw [rangeD_len, dW_len] at this; omega
      refine ⟨_, rfl, sds_one (sd_popCat 5 4 (ED.mono (ed_tap 0 D1 (hr.mono (by omega)) (by rfl) (fun t => t = (rs.length : Int)) (fun t h => by omega) (ED.mono (de_lenR (by rfl) B.len b_len (ar_one (dr_own 4))) fun d hd => ⟨_, hd.symm, by rw [List.length_map]⟩)) fun d ⟨j, e, t, h1, h2, h3⟩ => ⟨j, e, h1, by rw [List.length_map]; omega⟩) (by decide) (by rw [List.length_map]; omega) (by rw [List.length_map]; omega) (fun k d2 hd2 => ?_) rfl rfl c_law_other.nd (by exact Or.inl rfl))⟩
      obtain ⟨x, hx, rfl⟩ := dW_got hd2
      obtain ⟨hk, ex⟩ := List.getElem?_eq_some_iff.mp hx
      have hxm : x ∈ rs := List.mem_of_getElem? hx
      refine ⟨rs.eraseIdx k, fs ++ [x], .dat d, ?_, by rw [List.length_append, hf]; rfl, by rw [List.length_eraseIdx_of_lt hk]; omega, fun z hz => ?_, fun z hz => w2 z (List.mem_of_mem_eraseIdx hz)⟩
      · rw [erase_map]
        show [_, _, _, _, _, Slot.dat (.tuple _), _] = [_, _, _, _, _, Slot.dat (.tuple _), _]
        rw [List.map_append]
        rfl
      · rcases List.mem_append.mp hz with m | m
        · exact w1 z m
        · have : z = x := by simpa using m
          exact this ▸ w2 x hxm
    · subst hd
      obtain ⟨rs, fs, s6, rfl, hf, hrs, w1, w2⟩ := h1
      rw [rangeD_len, dW_len, Int.toNat_natCast] at hf
      exact sds_one (sd_retD (de_var 5) ⟨fs, ⟨by omega, w1⟩, rfl⟩)
  exact sds_one (sd_ret (R := fun d => ∃ v, Wd v ∧ d = dW v) (ed_cc 0 D5 (hr.mono (by omega)) (by rfl) (da_cons de_int da_nil) fun ds hds => by
    subst hds
    exact ⟨rfl, _, ⟨rfl, rfl⟩, fun r ⟨v, hv, e⟩ => ⟨_, e, v, hv, rfl⟩⟩) fun d ⟨v, hv, e⟩ => ⟨v, hv, by rw [e]⟩)
end
end WL

set_option maxRecDepth 100000
set_option maxHeartbeats 4000000
namespace WL
open PySem PySem.Spec PyProof.Rows L2
/-- the script and a number in, a new cask out -/
def spK (K : PySem.W.Frag) : Sp := fun vs H Q _ => ∃ (a : Addr) (ns : List Int) (k : Nat), vs = [.ref a, .int (k : Int)] ∧ SqL K H a (ns.map V.int) ∧ ns.length ≤ 63 ∧ k ≤ 10 ∧ ∀ p H', ExC none H H' → H p = none → CaskAt H' p → Q (.ref p) H'
section
variable {X : Cx} {c : Option Addr} {δ : List Slot} {a b : Expr} {pos : Pos}
theorem de_pow {i j : Int} (ha : DE X c a δ (.int i)) (hb : DE X c b δ (.int j)) (h : CPow i j) : DE X c (.BinOp a .Pow b pos) δ (.int (i ^ j.toNat)) :=
  ED.mono (ed_opI op_pow (DE.i ha) (DE.i hb) fun i' j' e1 e2 => by rw [e1, e2]; exact h) fun d ⟨i', j', e, e1, e2⟩ => by rw [e, e1, e2]
end
section
variable {P : Program} {w : World} {K : PySem.W.Frag} {mg : Str → Option Value} {base : Heap}
abbrev s_law_cask : Stmt := topS 48
theorem c_law_cask : FnScope ["_law_cells", "_law_k", "_law_cell", "_law_mixed", "_law_each"] ["_law_cells", "_law_k"] (defScope s_law_cask) := ⟨rfl, rfl, rfl, by decide +kernel, rfl, by decide +kernel, by decide +kernel⟩
theorem f_law_cask (B : Bi mg) (T : Tx K mg "_law_cask" s_law_cask) : Df P w K mg base "_law_cask" 1 ["_law_cells", "_law_k"] (spK K) := by
  refine dfG T c_law_cask (fun _ _ _ _ _ _ us hl => match us, hl with | [_, _], _ => rfl) (fun vs H Q E ⟨_, _, _, e, _⟩ => by rw [e]; rfl) fun f cdv A outer s H vs Q E hr ⟨a, ns, k, e, hs, hl, hk, q⟩ => ?_
  subst e
  obtain ⟨fr, h1, h2⟩ := sq_fr hs
  have hrd : isRd K none (.frg false a fr) ns := ⟨a, fr, rfl, (fun z => nomatch z), h2⟩
  refine ⟨none, startD _ [.frg false a fr, .dat (.int (k : Int))], ⟨fun _ => False, fun r => ∃ i j : Int, r = .lst [.int i, .int j, .int 0], fun _ => False, fun _ => False⟩, ?_, rep_startG rfl (Nat.le_of_ble_eq_true rfl) (fun i sl hi => ?_) (fun i a o z => ?_) (fun _ z => nomatch z), ⟨fun _ _ _ _ z => z.elim, fun v H' r x' ok e => ?_, fun _ _ _ _ z => z.elim, fun _ _ _ _ z => z.elim⟩⟩
  rotate_left
  · match i, hi with
    | 0, hi =>
      cases hi
      exact ⟨start_at rfl, fun x hx => ⟨(fun z => nomatch z), (fun z => nomatch z), (h1 x hx).2, fun z => nomatch z⟩⟩
    | 1, hi =>
      cases hi
      exact ⟨_, start_at rfl, .int _⟩
  · match i, z with
    | 0, z => exact z
    | 1, z => exact z
  · obtain ⟨i, j, rfl⟩ := e
    obtain ⟨p, vs, rfl, g1, g2, g3⟩ := ok
    have e : vs = [.int i, .int j, .int 0] := TpAll.ints (ns := [i, j, 0]) g3
    subst e
    exact q p H' x' g1 ⟨_, _, _, g2⟩
  generalize (Slot.frg false a fr) = s0 at hrd
  refine sds_cons (sd_set c_law_cask.nd (i := 2) rfl (by exact Or.inl rfl) (R := fun d => ∃ i, d = .int i ∧ True) (ed_if (B := fun b => b = decide ((k : Int) < (ns.length : Int))) (ET.mono (dt_cmp (dc_lt (de_var 1) (DE.to (de_lenR (by rfl) B.len b_len (ar_one (dr_sq 0 hrd))) (by rw [dW_len])))) fun b hb => hb.symm) (fun hb => ?_) fun _ => ?_) fun d hd => ?_)
  · have hlt : k < ns.length := by have := of_decide_eq_true hb.symm; omega
    exact ed_int1 (by rfl) B.int b_int (ED.mono (de_ixR (d := .int ns[k]) (dr_sq 0 hrd) (de_var 1) (atI_W (List.getElem?_eq_getElem hlt))) fun d hd => ⟨_, hd.symm, True.intro⟩)
  · exact ED.tr (DE.i (de_add (de_mul de_int (de_var 1) (small_mul (by decide))) de_int))
  obtain ⟨cl, rfl, _⟩ := hd
  refine sds_cons (sd_set c_law_cask.nd (i := 3) rfl (by exact Or.inl rfl) (de_add de_int (de_mul de_int (de_var 1) (small_mul (by decide)))) fun d hd => ?_)
  subst hd
  refine sds_cons (sd_for (A := gN 4) (js := [4]) (L := fun ds => ∀ d ∈ ds, ∃ i, d = .int i) (fun ds i δ => ∃ (m : Int) (s4 : Slot), δ = [s0, .dat (.int (k : Int)), .dat (.int cl), .dat (.int m), s4]) PassesOwn.never rfl
    (EI.mono (di_fresh (ef_cat (ef_cutR (dr_sq 0 hrd) dp_none (dp_some de_int)) (df_lst (ds := [.int cl]) (da_cons (de_var 2) da_nil) (le5 rfl)) fun ds es ⟨ds', e1, e2⟩ e3 => ?_)) fun ds ⟨es, fs, ⟨es', e1, e2⟩, e3, e4⟩ d hd => ?_)
    (eg_name c_law_cask.nd rfl (by exact Or.inl rfl) (by decide)) (fun ds hd => ⟨_, .un, rfl⟩) (fun ds i d δ1 hd hi h1 => ?_) fun ds δ1 hd h1 => ?_)
  · subst e1 e2 e3
    have : (cutG (ns.map PyData.int) none (some 6)).length ≤ (ns.map PyData.int).length := by
      unfold cutG
      rw [List.length_take, List.length_drop]
      omega
    rw [List.length_map] at this
    simp
    omega
  · subst e1 e2 e3 e4
    rcases List.mem_append.mp hd with h | h
    · unfold cutG at h
      obtain ⟨i, _, e⟩ := List.mem_map.mp (List.mem_of_mem_drop (List.mem_of_mem_take h))
      exact ⟨i, e.symm⟩
    · exact ⟨cl, by simpa using h⟩
  · obtain ⟨m, s4, rfl⟩ := h1
    obtain ⟨z, rfl⟩ := hd d (List.mem_of_getElem? hi)
    exact ⟨_, rfl, sds_one (sd_set c_law_cask.nd (i := 3) rfl (by exact Or.inl rfl) (de_mod (de_int1 (by rfl) B.int b_int (da_cons (de_add (de_mul (de_var 3) de_int (small_mulR (by decide))) (de_int1 (by rfl) B.int b_int (da_cons (de_var 4) da_nil))) da_nil)) de_int (by decide)) fun d hd => ⟨_, .dat (.int z), by subst hd; rfl⟩)⟩
  · obtain ⟨m, s4, rfl⟩ := h1
    refine sds_one (sd_retF (ef_lst (L := fun ds => ∃ i, ds = [.int i, .int m, .int 0]) (EA.mono (ea_cons (R := fun d => ∃ i, d = .int i ∧ True) (ed_if (dt_w (dw_or (dt_cmp (dc_lt (de_var 2) de_int)) fun _ => dw_or1 (dt_cmp (dc_ge (de_var 2) (de_pow de_int de_int (show CPow 10 18 from ⟨by decide, by decide, by decide⟩)))))) (fun _ => ed_abs (by rfl) B.abs b_abs (DE.i (de_var 2))) fun _ => ED.tr (DE.i de_int)) (da_cons (de_var 3) (da_cons de_int da_nil)))
      fun ds h => by
        obtain ⟨d, r, e1, ⟨i, e2, _⟩, e3⟩ := h
        exact ⟨i, by rw [e1, e2, ← e3]⟩) fun ds ⟨i, e⟩ => by rw [e]; exact le5 rfl) fun ds ⟨i, e⟩ => ⟨i, m, by rw [e]⟩)
end
end WL

set_option maxRecDepth 100000
set_option maxHeartbeats 4000000
namespace WL
open PySem PySem.Spec PyProof.Rows L2
/-! ### calls by name -/
abbrev gSw {α : Type} (us ws : List α) : List α := us ++ ws.reverse
/-- a def that is called by place, and by names ks, the parameters from behind -/
structure DfK (P : Program) (w : World) (K : PySem.W.Frag) (mg : Str → Option Value) (base : Heap) (x : Str) (k : Nat) (ps ks : List Str) (sp : Sp) : Prop where
  ex : ∃ f fd, FnOk P w K mg base CX0 k f fd ps sp ∧ mg x = some (.ref f) ∧ PySem.W.keepIn K (.ref f) = true ∧ Binds K fd ps [] ∧ KBinds K fd ps ks gSw gSw
theorem split2 {P : List Value → List Value → Prop} (us ws : List Value) (h : us.length + ws.length = 2) (h1 : ∀ a b, P [] [a, b]) (h2 : ∀ a b, P [a] [b]) (h3 : ∀ a b, P [a, b] []) : P us ws := by
  rcases us with _ | ⟨a, _ | ⟨b, _ | ⟨c, us⟩⟩⟩ <;> rcases ws with _ | ⟨d, _ | ⟨e, _ | ⟨g, ws⟩⟩⟩ <;> first
    | exact h1 _ _
    | exact h2 _ _
    | exact h3 _ _
    | (exfalso; simp only [List.length_cons, List.length_nil] at h; omega)
theorem Vals.turn : ∀ {vs : List V} {us : List Value}, Vals vs us → Vals vs.reverse us.reverse
  | _, _, .nil => .nil
  | _, _, .cons r t => by
    rw [List.reverse_cons, List.reverse_cons]
    exact (Vals.turn t).append (.cons r .nil)
section
variable {P : Program} {w : World} {K : PySem.W.Frag} {mg : Str → Option Value} {base : Heap} {x : Str} {st : Stmt} {N ps ks : List Str} {k n : Nat} {S : List PyData → Rt → Prop} {sp : Sp}
theorem DfK.df (h : DfK P w K mg base x k ps ks sp) : Df P w K mg base x k ps sp :=
  let ⟨f, fd, a, b, c, d, _⟩ := h.ex
  ⟨f, fd, a, b, c, d⟩
theorem dfRK (T : Tx K mg x st) (sc : FnScope N ps (defScope st)) (hn : ps.length = n)
    (hb : ∀ (kV doc pm : Value) (an : Option Addr) (cdv ct : Value) (us ws : List Value), us.length + ws.length = ps.length → bindArgs (PySem.W.fnOf x x (defArgs st) (defBody st) (defScope st) .none kV doc pm an cdv ct) ⟨us, ks.zip ws⟩ = pure (ps.zip (gSw us ws)))
    (body : ∀ (f : Addr) (cdv : Value) (A : Around) (outer : List Env) (s : Shared) (H : Hp) (E : XK) (ds : List PyData) (r : Rt), Room k (A.deeper (envOfC x (defScope st) s.heap.objs.size f cdv)) → S ds r →
      SDs (CxF P w K mg base N x st f cdv A outer s H E) none (defBody st) (startD N (ds.map .dat)) ⟨fun _ => r = .dat .none, fun q => q = r, fun _ => False, fun _ => False⟩) : DfK P w K mg base x (k + 1) ps ks (spR K n S) := by
  obtain ⟨f, fd, F, g⟩ := T.ex
  refine ⟨f, fd, fnR F sc hn (fun cdv A outer s H E ds r hr _ hS => body f cdv A outer s H E ds r hr hS), g, F.kp, F.binds fun kV doc pm an cdv ct us hl => ?_, ⟨fun s us ws _ hl => ?_, fun a b => a.append (Vals.turn b)⟩⟩
  · have h := hb kV doc pm an cdv ct us [] hl
    rw [List.zip_nil_right, show gSw us [] = us from List.append_nil us] at h
    exact h
  · obtain ⟨oc, od, kV, doc, pm, an, cdv, ct, osl, rfl, _⟩ := F.ex
    exact .of_eq (hb kV doc pm an cdv ct us ws (by rwa [List.length_append, List.length_reverse] at hl))
end
section
variable {X : Cx} {c : Option Addr} {δ : List Slot} {D : DEnds} {a b e : Expr} {es : List Expr} {pos p p2 pn q1 q2 pos1 pos2 : Pos} {d d1 d2 : PyData} {ds ds1 ds2 : List PyData} {L : List PyData → Prop} {x y k1 k2 : Str} {i k n : Nat} {ps : List Str} {S : List PyData → Rt → Prop}
/-- f(k1 = a, k2 = b) -/
theorem de_cdK (F : DfK X.prog X.w X.K X.mg X.base x k ps [k1, k2] (spR X.K 2 S)) (hr : Room k X.A) (hg : Gl X x) (ha : DE X c a δ d1) (hb : DE X c b δ d2) (h : S [d2, d1] (.dat d))
    (hall : (backToKw pos (keywordEach [⟨some k1, a, q1⟩, ⟨some k2, b, q2⟩] X.env)).all (·.1.isSome) = true := by rfl) (hks : (backToKw pos (keywordEach [⟨some k1, a, q1⟩, ⟨some k2, b, q2⟩] X.env)).filterMap (·.1) = [k1, k2] := by rfl) (hdb : (x == ("__debug__" : Str)) = false := by decide)
    (hpl : ((backTo pos (starEach [] X.env)).any (·.1) || (backToKw pos (keywordEach [⟨some k1, a, q1⟩, ⟨some k2, b, q2⟩] X.env)).any (·.1.isNone)) = false := by rfl) : DE X c (.Call (.Name x p) [] [⟨some k1, a, q1⟩, ⟨some k2, b, q2⟩] pos) δ d := by
  obtain ⟨f, fd, F, hm, hk, _, hbk⟩ := F.ex
  refine ⟨fun pins s σ H Q I ⟨⟨H0, rp⟩, q⟩ => ?_⟩
  refine wpAny_Call_Name_kw (ld_glob I hg hm ?_ hdb)
  have pk : PK X [⟨some k1, a, q1⟩, ⟨some k2, b, q2⟩] _ := pk_cons ha (pk_cons hb pk_nil)
  refine PySem.W.callWith_KW0 (h₀ := X.base) I.ok.mod.kin hk hall (thn (pk.run pos pins s σ H (fun zs H' => ExC c H H' ∧ TpAll X.K H' zs [d1, d2]) I ⟨⟨H0, rp⟩, fun v e1 H1 x1 t1 r1 => ⟨⟨H0, rp.mono x1⟩, fun u e2 H2 x2 t2 r2 => ⟨x1.trans x2, ?_⟩⟩⟩) fun ws s2 ⟨zs, H2, I2, rz, x2, tz⟩ => ⟨I2.kIn, ?_⟩) hpl
  · subst r1 r2
    exact .cons (Tp.te x2.te _ _ t1) (.cons t2 .nil)
  · rw [hks]
    refine run_fnk F hr hbk pass0 I2 .nil rz ?_
    cases tz with
    | cons t1 tz =>
      cases tz with
      | cons t2 tz =>
        cases tz
        exact ⟨rfl, _, _, .cons t2 (.cons t1 .nil), h, fun v H' x' ok => q v d H' (x2.trans (ExC.none x')) ok rfl⟩
/-- a new list, again and again -/
theorem tp_rep {K : PySem.W.Frag} {H : Hp} {vs : List V} (t : TpAll K H vs ds) : ∀ n : Nat, TpAll K H (List.replicate n vs).flatten (List.replicate n ds).flatten
  | 0 => .nil
  | n + 1 => by
    rw [List.replicate_succ, List.replicate_succ]
    exact t.append (tp_rep t n)
theorem df_rep {m : Int} (ha : DF X c a δ ds) (hb : DE X c b δ (.int m)) (hm : 0 ≤ m ∧ m ≤ 100) (hl : ds.length ≤ 100) : DF X c (.BinOp a .Mult b pos) δ (List.replicate m.toNat ds).flatten := pe_imp (pe_op op_rep ha hb) fun σ H Q ⟨⟨H0, rp⟩, q⟩ => by
  refine ⟨⟨H0, rp⟩, fun p vs es H1 n x y t r => ⟨⟨H0, rp.mono x⟩, fun u d2 H2 x2 t2 e2 => ?_⟩⟩
  subst r e2
  cases t2
  have l1 := t.len
  have hz : vs.length * m.toNat ≤ 100 * 100 := Nat.mul_le_mul (by omega) (by omega)
  refine ⟨p, m, vs, rfl, rfl, x2.ex _ _ (rp.fresh n).2 y, by omega, by omega, Nat.le_trans hz (by decide), fun l hl => ?_⟩
  have x12 := x.trans x2
  exact q l _ _ _ (x12.back ((rp.mono x12).fresh hl).2 hl) (x12.trans (ExC.new hl)) upd_same (tp_rep (TpAll.te (x2.trans (ExC.new hl)).te _ _ t) _) rfl
/-- repr of data, where no repr is under way -/
theorem cr_repr (hg : X.A.guards = some []) (hu : X.A.units + 64 < cLine) : CallR X (.builtin "repr") (fun vs H Q => ∃ l e, vs = [V.ref l] ∧ Dp X.K H (.ref l) e ∧ e.showable = true ∧ e.hasDict = false ∧ e.depth ≤ 10 ∧ e.shown.length ≤ 1000 ∧ Q (.str e.shown) H) := by
  intro pins s σ H vs us Q I r h
  obtain ⟨l, e, rfl, hd, h1, h2, h3, h4, q⟩ := h
  rw [Vals.ref1 r]
  obtain ⟨as, hr⟩ := Dp.reads I e _ (.ref l) hd rfl
  exact repr_of_reads' hr h1 (PyData.noDict_hsm h2) hg (by omega) (fun _ _ z => z) (fun h' u tk hk => ⟨.str _, H, I.kept hk, ⟨_, rfl⟩, q⟩) (Nat.le_trans h4 (by decide))
/-- repr(a) != repr(b) of new lists that are alike -/
theorem dt_reprNe (hG : X.A.guards = some []) (hu : X.A.units + 64 < cLine) (hg : Gl X "repr") (hm : X.mg "repr" = none) (hv : bootBuiltins "repr" = some (.builtin "repr")) (ha : DF X c a δ ds) (hb : DF X c b δ ds) (h1 : (PyData.list ds).showable = true) (h2 : (PyData.list ds).hasDict = false) (h3 : (PyData.list ds).depth ≤ 10) (h4 : (PyData.list ds).shown.length ≤ 1000)
    (hsa : starEach [a] X.env = (false, eval a X.env) :: starEach [] X.env := by rfl) (hsb : starEach [b] X.env = (false, eval b X.env) :: starEach [] X.env := by rfl) (hp1 : (backTo pos1 (starEach [] X.env)).any (·.1) = false := by rfl) (hp2 : (backTo pos2 (starEach [] X.env)).any (·.1) = false := by rfl) :
    DT X c (.Compare (.Call (.Name "repr" p) [a] [] pos1) [.NotEq] [.Call (.Name "repr" p2) [b] [] pos2] pos) δ false := by
  refine pt_imp (pt_cmp (pc_of op_ne (pe_callB (cr_repr hG hu) hg hm hv (pa_cons ha pa_nil hsa) (by decide) (by decide) hsa hp1) (pe_callB (cr_repr hG hu) hg hm hv (pa_cons hb pa_nil hsb) (by decide) (by decide) hsb hp2))) fun σ H Q ⟨⟨H0, rp⟩, q⟩ => ?_
  refine ⟨⟨H0, rp⟩, fun l1 vs1 e1 H1 n1 x1 y1 t1 r1 => ⟨l1, .list ds, rfl, .lst (SqL.of y1) (by subst r1; exact TpAll.dp _ _ t1), h1, h2, h3, h4, ⟨H0, rp.mono x1⟩, fun l2 vs2 e2 H2 n2 x2 y2 t2 r2 => ⟨l2, .list ds, rfl, .lst (SqL.of y2) (by subst r2; exact TpAll.dp _ _ t2), h1, h2, h3, h4, rfl, _, rfl, ?_⟩⟩⟩
  refine q _ H2 (x1.trans x2) ?_
  rw [decide_eq_true rfl]
  rfl
end
end WL

set_option maxRecDepth 100000
set_option maxHeartbeats 4000000
/-! the plain facts that the law's turn needs -/
namespace WS
theorem stdAux_bound : ∀ (w pre : List Int), ∀ x ∈ stdAux pre w, 1 ≤ x ∧ x ≤ (pre.length : Int) + w.length
  | [], pre, x, h => nomatch h
  | a :: r, pre, x, h => by
    rcases List.mem_cons.mp h with rfl | h
    · have h1 : cLe a pre ≤ pre.length := List.countP_le_length
      have h2 : cLt a r ≤ r.length := List.countP_le_length
      rw [List.length_cons]
      omega
    · have h1 := stdAux_bound r (a :: pre) x h
      rw [List.length_cons] at h1 ⊢
      omega
theorem foldl_max_ge : ∀ (l : List Int) (a : Int), a ≤ l.foldl max a ∧ ∀ x ∈ l, x ≤ l.foldl max a
  | [], a => ⟨Int.le_refl _, fun x h => nomatch h⟩
  | b :: l, a => by
    obtain ⟨h1, h2⟩ := foldl_max_ge l (max a b)
    refine ⟨by show a ≤ l.foldl max (max a b); omega, fun x hx => ?_⟩
    show x ≤ l.foldl max (max a b)
    rcases List.mem_cons.mp hx with rfl | hx
    · omega
    · exact h2 x hx
theorem foldl_max_le : ∀ (l : List Int) (a m : Int), a ≤ m → (∀ x ∈ l, x ≤ m) → l.foldl max a ≤ m
  | [], a, m, h, _ => h
  | b :: l, a, m, h, hl => by
    show l.foldl max (max a b) ≤ m
    have := hl b List.mem_cons_self
    exact foldl_max_le l _ m (by omega) fun x hx => hl x (List.mem_cons_of_mem _ hx)
end WS
namespace WL
open PySem PySem.Spec PyProof.Rows L2
theorem std_wd {w : List Int} (h : Wd w) : Wd (WS.std w) := ⟨by
  rw [show WS.std w = WS.stdAux [] w from rfl, WS.stdAux_len]
  exact h.1, fun x hx => by
  have h1 := WS.stdAux_bound w [] x hx
  have := h.1
  rw [List.length_nil] at h1
  omega⟩
theorem turn_wd {w : List Int} {m : Int} (h : Wd w) (hm : m ≤ 12) (hx : ∀ x ∈ w, x ≤ m) : Wd (WS.turn m w) := ⟨by
  unfold WS.turn
  rw [List.length_map, List.length_reverse]
  exact h.1, fun y hy => by
  obtain ⟨x, h1, rfl⟩ := List.mem_map.mp hy
  have h1 := List.mem_reverse.mp h1
  have := hx x h1
  have := h.2 x h1
  omega⟩
theorem snoc_wd {w : List Int} {x : Int} (h : Wd w) (hl : w.length < 12) (hx : 1 ≤ x ∧ x ≤ 12) : Wd (w ++ [x]) := ⟨by
  rw [List.length_append]
  exact hl, fun y hy => by
  rcases List.mem_append.mp hy with m | m
  · exact h.2 y m
  · have : y = x := by simpa using m
    exact this ▸ hx⟩
theorem cons_wd {w : List Int} {x : Int} (h : Wd w) (hl : w.length < 12) (hx : 1 ≤ x ∧ x ≤ 12) : Wd (x :: w) := ⟨hl, fun y hy => by
  rcases List.mem_cons.mp hy with rfl | m
  · exact hx
  · exact h.2 y m⟩
theorem tots_alike {w v : List Int} (h : WS.rowsOf w = WS.rowsOf v) : tots w = tots v := by
  unfold tots tot lens
  rw [h]
theorem ch_alike {w v : List Int} (h : WS.rowsOf w = WS.rowsOf v) : dCh w v = .tuple (dN (WS.between w v)) := if_pos h
theorem ch_none {w v : List Int} (h : ¬ WS.rowsOf w = WS.rowsOf v) : dCh w v = .none := if_neg h
/-- the amounts and the standings, as the law asks of them -/
theorem due_std {w v : List Int} (hw : Wd w) (hv : Wd v) : (decide (WS.amts w = WS.amts v) && decide (WS.rowsOf (WS.std w) = WS.rowsOf (WS.std v))) = decide (WS.rowsOf w = WS.rowsOf v) := by
  rw [Bool.eq_iff_iff, Bool.and_eq_true, decide_eq_true_iff, decide_eq_true_iff, decide_eq_true_iff, WS.amts_iff (fun x hx => (hw.2 x hx).1) (fun x hx => (hv.2 x hx).1)]
  exact WS.alike_std
theorem due_turn {w v : List Int} (m : Int) : decide (WS.rowsOf (WS.turn m w) = WS.rowsOf (WS.turn m v)) = decide (WS.rowsOf w = WS.rowsOf v) := by
  rw [Bool.eq_iff_iff, decide_eq_true_iff, decide_eq_true_iff]
  exact WS.alike_turn m
section
variable {P : Program} {w : World} {K : PySem.W.Frag} {mg : Str → Option Value} {base : Heap}
abbrev DAlike (P : Program) (w : World) (K : PySem.W.Frag) (mg : Str → Option Value) (base : Heap) : Prop := DfK P w K mg base "alike" 7 ["word", "other"] ["other", "word"] (spR K 2 S_alike)
abbrev DChain (P : Program) (w : World) (K : PySem.W.Frag) (mg : Str → Option Value) (base : Heap) : Prop := DfK P w K mg base "chain" 7 ["word", "other"] ["other", "word"] (spR K 2 S_chain)
theorem k_alike (D1 : Df P w K mg base "check_two" 6 ["word", "other"] (spR K 2 S_two)) (D2 : Df P w K mg base "are_alike" 4 ["word", "other"] (spR K 2 S_alike)) (T : Tx K mg "alike" s_alike) : DAlike P w K mg base := by
  refine dfRK T c_alike rfl (fun kV doc pm an cdv ct us ws hl => split2 (P := fun us ws => bindArgs (PySem.W.fnOf "alike" "alike" (defArgs s_alike) (defBody s_alike) (defScope s_alike) .none kV doc pm an cdv ct) ⟨us, (["other", "word"] : List Str).zip ws⟩ = pure ((["word", "other"] : List Str).zip (gSw us ws))) us ws hl (fun _ _ => rfl) (fun _ _ => rfl) fun _ _ => rfl) fun f cdv A outer s H E ds r hr hS => ?_
  obtain ⟨w, v, hw, hv, rfl, rfl⟩ := hS
  exact sds_cons (sd_drop (de_cd D1 (hr.mono (by omega)) (by rfl) (da_cons (de_var 0) (da_cons (de_var 1) da_nil)) rfl ⟨w, v, hw, hv, rfl, rfl⟩) fun d _ => sds_one (sd_retD (de_cd D2 (hr.mono (by omega)) (by rfl) (da_cons (de_var 0) (da_cons (de_var 1) da_nil)) rfl ⟨w, v, hw, hv, rfl, rfl⟩) rfl))
theorem k_chain (D1 : Df P w K mg base "check_two" 6 ["word", "other"] (spR K 2 S_two)) (D2 : Df P w K mg base "are_alike" 4 ["word", "other"] (spR K 2 S_alike)) (D3 : Df P w K mg base "steps_between" 5 ["word", "other"] (spR K 2 S_between)) (T : Tx K mg "chain" s_chain) : DChain P w K mg base := by
  refine dfRK T c_chain rfl (fun kV doc pm an cdv ct us ws hl => split2 (P := fun us ws => bindArgs (PySem.W.fnOf "chain" "chain" (defArgs s_chain) (defBody s_chain) (defScope s_chain) .none kV doc pm an cdv ct) ⟨us, (["other", "word"] : List Str).zip ws⟩ = pure ((["word", "other"] : List Str).zip (gSw us ws))) us ws hl (fun _ _ => rfl) (fun _ _ => rfl) fun _ _ => rfl) fun f cdv A outer s H E ds r hr hS => ?_
  obtain ⟨w, v, hw, hv, rfl, rfl⟩ := hS
  refine sds_cons (sd_drop (de_cd D1 (hr.mono (by omega)) (by rfl) (da_cons (de_var 0) (da_cons (de_var 1) da_nil)) rfl ⟨w, v, hw, hv, rfl, rfl⟩) fun d _ => sds_one (sd_ret (R := fun d => d = dCh w v) (ed_if (dt_val (de_cd D2 (hr.mono (by omega)) (by rfl) (da_cons (de_var 0) (da_cons (de_var 1) da_nil)) rfl ⟨w, v, hw, hv, rfl, rfl⟩)) (fun hk => ?_) fun hk => ?_) fun d hd => by subst hd; rfl))
  · exact ED.mono (de_cd D3 (hr.mono (by omega)) (by rfl) (da_cons (de_var 0) (da_cons (de_var 1) da_nil)) rfl ⟨w, v, hw, hv, rfl, rfl⟩) fun d hd => by rw [ch_alike (of_decide_eq_true hk), hd]
  · exact ED.mono de_non fun d hd => by rw [ch_none (of_decide_eq_false hk), hd]
end
end WL

set_option maxRecDepth 100000
set_option maxHeartbeats 4000000
namespace WL
open PySem PySem.Spec PyProof.Rows L2
section
variable {P : Program} {w : World} {K : PySem.W.Frag} {mg : Str → Option Value} {base : Heap}
abbrev s_law_right : Stmt := topS 62
theorem c_law_right : FnScope ["_law_cask_here", "_law_lap", "_law_w", "_law_v", "_law_due", "_law_found", "_law_top", "_law_fresh"] ["_law_cask_here"] (defScope s_law_right) := ⟨rfl, rfl, rfl, by decide +kernel, rfl, by decide +kernel, by decide +kernel⟩
/-- what the law's turn calls -/
structure Subs (P : Program) (w : World) (K : PySem.W.Frag) (mg : Str → Option Value) (base : Heap) : Prop where
  tap : DTap P w K mg base
  letters : Df P w K mg base "_law_letters" 3 ["_law_cask_here", "_law_most_long"] (spC K 1 S_letters)
  other : Df P w K mg base "_law_other" 4 ["_law_cask_here", "_law_w"] (spC K 1 S_other)
  grown : Df P w K mg base "_law_grown" 2 ["_law_w"] (spR K 1 S_rows)
  alike : DAlike P w K mg base
  chain : DChain P w K mg base
  cright : Df P w K mg base "_law_chain_right" 7 ["_law_w", "_law_v", "_law_found"] (spR K 3 S_cright)
  amounts : Df P w K mg base "amounts" 6 ["word"] (spR K 1 S_amts)
  standing : Df P w K mg base "standing" 6 ["word"] (spR K 1 S_std)
  turned : Df P w K mg base "turned" 6 ["word", "most"] (spR K 2 S_turn)
  totals : Df P w K mg base "_law_totals" 8 ["_law_w"] (spR K 1 S_totals)
theorem b_law_right (B : Bi mg) (U : Subs P w K mg base) (f : Addr) (cdv : Value) (A : Around) (outer : List Env) (s : Shared) (H : Hp) (E : XK) (p : Addr) (hG : A.guards = some []) (hr : Room 8 (A.deeper (envOfC "_law_right" (defScope s_law_right) s.heap.objs.size f cdv))) :
    SDs (CxF P w K mg base ["_law_cask_here", "_law_lap", "_law_w", "_law_v", "_law_due", "_law_found", "_law_top", "_law_fresh"] "_law_right" s_law_right f cdv A outer s H E) (some p) (defBody s_law_right) (startD ["_law_cask_here", "_law_lap", "_law_w", "_law_v", "_law_due", "_law_found", "_law_top", "_law_fresh"] [.csk]) ⟨fun _ => False, fun r => r = .dat (.bool true), fun _ => False, fun _ => False⟩ := by
  refine sds_cons (sd_for (A := gN 1) (js := [1]) (fun ds i δ => ∃ s1 s2 s3 s4 s5 s6 s7 : Slot, δ = [.csk, s1, s2, s3, s4, s5, s6, s7]) PassesOwn.never rfl (di_range1 (by rfl) B.range (da_cons de_int da_nil) (by decide)) (eg_name c_law_right.nd rfl (by exact Or.inl rfl) (by decide)) (fun ds hd => ⟨.un, .un, .un, .un, .un, .un, .un, rfl⟩) (fun ds i d δ1 hd hi h1 => ?_) fun ds δ1 hd h1 => sds_one (sd_retD de_bl rfl))
  obtain ⟨s1, s2, s3, s4, s5, s6, s7, rfl⟩ := h1
  refine ⟨_, rfl, ?_⟩
  refine sds_cons (sd_set c_law_right.nd (i := 2) rfl (by exact Or.inl rfl) (R := fun d => ∃ v, Wd v ∧ d = dW v) (ed_cc 0 U.letters (hr.mono (by omega)) (by rfl) (da_cons de_int da_nil) fun ds hds => by
    subst hds
    exact ⟨rfl, _, ⟨rfl, rfl⟩, fun r ⟨v, hv, e⟩ => ⟨_, e, v, hv, rfl⟩⟩) fun d hd => ?_)
  obtain ⟨w1, hw, rfl⟩ := hd
  refine sds_cons (sd_set c_law_right.nd (i := 3) rfl (by exact Or.inl rfl) (R := fun d => ∃ v, Wd v ∧ d = dW v) (ed_cc 0 U.other (hr.mono (by omega)) (by rfl) (da_cons (de_var 2) da_nil) fun ds hds => by
    subst hds
    exact ⟨rfl, _, ⟨w1, hw, rfl, rfl⟩, fun r ⟨v, hv, e⟩ => ⟨_, e, v, hv, rfl⟩⟩) fun d hd => ?_)
  obtain ⟨v1, hv, rfl⟩ := hd
  have hwl := hw.1
  have hvl := hv.1
  refine sds_cons (sd_set c_law_right.nd (i := 4) rfl (by exact Or.inl rfl) (DE.to (de_cmp (dc_eq (u64 hr) (de_cd U.grown (hr.mono (by omega)) (by rfl) (da_cons (de_var 2) da_nil) rfl ⟨w1, by omega, rfl, rfl⟩) (de_cd U.grown (hr.mono (by omega)) (by rfl) (da_cons (de_var 3) da_nil) rfl ⟨v1, by omega, rfl, rfl⟩) (shaped_R _) (shaped_R _))) (by rw [eqv_R])) fun d hd => ?_)
  subst hd
  obtain ⟨due, hdue⟩ : ∃ b, b = decide (WS.rowsOf w1 = WS.rowsOf v1) := ⟨_, rfl⟩
  rw [← hdue]
  have yes : due = true → WS.rowsOf w1 = WS.rowsOf v1 := fun h => of_decide_eq_true (hdue.symm.trans h)
  have no : due = false → ¬ WS.rowsOf w1 = WS.rowsOf v1 := fun h => of_decide_eq_false (hdue.symm.trans h)
  -- alike, in three ways
  refine sds_cons (sd_ifD (k := false) (dt_reprNe (ds := [.bool due, .bool due, .bool due]) hG (u64 hr) (by rfl) B.repr b_repr
    (df_lst (da_cons (DE.to (de_cd U.alike.df (hr.mono (by omega)) (by rfl) (da_cons (de_var 2) (da_cons (de_var 3) da_nil)) rfl ⟨w1, v1, hw, hv, rfl, rfl⟩) (by rw [hdue])) (da_cons (DE.to (de_cdK U.alike (hr.mono (by omega)) (by rfl) (de_var 3) (de_var 2) ⟨w1, v1, hw, hv, rfl, rfl⟩) (by rw [hdue]))
      (da_cons (DE.to (de_cd U.alike.df (hr.mono (by omega)) (by rfl) (da_cons (de_var 3) (da_cons (de_var 2) da_nil)) rfl ⟨v1, w1, hv, hw, rfl, rfl⟩) (by rw [hdue]; congr 1; exact decide_eq_decide.mpr eq_comm)) da_nil))) (le5 rfl))
    (DF.to (df_rep (df_lst (da_cons (de_var 4) da_nil) (le5 rfl)) de_int (by decide) (Nat.le_of_ble_eq_true rfl)) rfl) (by cases due <;> rfl) (by cases due <;> rfl) (by cases due <;> decide) (by cases due <;> decide)) (fun hk => by cases hk) fun _ => sds_nil ?_)
  -- chain, in two ways
  refine sds_cons (sd_for (A := gN 5) (js := [5]) (fun ds i δ => ∃ s5 : Slot, δ = [.csk, .dat d, .dat (dW w1), .dat (dW v1), .dat (.bool due), s5, s6, s7]) PassesOwn.never rfl
    (di_fresh (df_lst (da_cons (de_cd U.chain.df (hr.mono (by omega)) (by rfl) (da_cons (de_var 2) (da_cons (de_var 3) da_nil)) rfl ⟨w1, v1, hw, hv, rfl, rfl⟩) (da_cons (de_cdK U.chain (hr.mono (by omega)) (by rfl) (de_var 3) (de_var 2) ⟨w1, v1, hw, hv, rfl, rfl⟩) da_nil)) (le5 rfl)))
    (eg_name c_law_right.nd rfl (by exact Or.inl rfl) (by decide)) (fun ds hd => ⟨_, rfl⟩) (fun ds i e δ1 hd hi h1 => ?_) fun ds δ1 hd h1 => ?_)
  · obtain ⟨t5, rfl⟩ := h1
    have he : e = dCh w1 v1 := by
      subst hd
      have := List.mem_of_getElem? hi
      simpa using this
    subst he
    refine ⟨_, rfl, ?_⟩
    refine sds_cons (sd_ifD (k := false) (DT.to (dt_w (dw_or (dt_w (dw_and (dt_not (dt_val (de_var 4))) fun _ => dw_and1 (dt_cmp (dc_notN (de_var 5))))) fun _ => dw_or1 (dt_w (dw_and (k' := false) (dt_val (de_var 4)) fun hk => dw_and1 (dt_not (k := true) (dt_val (de_cd U.cright (hr.mono (by omega)) (by rfl) (da_cons (de_var 2) (da_cons (de_var 3) (da_cons (DE.to (de_var 5) (ch_alike (yes hk))) da_nil))) rfl ⟨w1, v1, _, hw, WS.between_path (yes hk), rfl, rfl⟩))))))) ?_) (fun hk => by cases hk) fun _ => sds_nil ?_)
    · cases hb : due with
      | true => rfl
      | false => rw [ch_none (no hb)]; rfl
    refine sds_one (sd_ifD (k := false) (DT.to (dt_w (dw_and (k' := false) (dt_val (de_var 4)) fun hk => dw_and1 (dt_not (k := true) (dt_val (de_cd U.cright (hr.mono (by omega)) (by rfl) (da_cons (de_var 3) (da_cons (de_var 2) (da_cons (de_rev (DE.to (de_var 5) (ch_alike (yes hk)))) da_nil))) rfl ⟨v1, w1, (WS.between w1 v1).reverse, hv, WS.path_back (WS.between_path (yes hk)), ?_, rfl⟩))))) ?_) (fun hk => by cases hk) fun _ => sds_nil ⟨_, rfl⟩)
    · show [dW v1, dW w1, PyData.tuple (dN _).reverse] = [_, _, PyData.tuple (dN _)]
      unfold dN
      rw [List.map_reverse]
    · cases due <;> rfl
  obtain ⟨t5, rfl⟩ := h1
  -- amounts and standings
  refine sds_cons (sd_ifD (k := false) (DT.to (dt_cmp (dc_ne (u64 hr) (de_and (de_cmp (dc_eq (u64 hr) (de_cd U.amounts (hr.mono (by omega)) (by rfl) (da_cons (de_var 2) da_nil) rfl ⟨w1, hw, rfl, rfl⟩) (de_cd U.amounts (hr.mono (by omega)) (by rfl) (da_cons (de_var 3) da_nil) rfl ⟨v1, hv, rfl, rfl⟩) (shaped_W _) (shaped_W _))) fun _ =>
    de_one (de_cd U.alike.df (hr.mono (by omega)) (by rfl) (da_cons (de_cd U.standing (hr.mono (by omega)) (by rfl) (da_cons (de_var 2) da_nil) rfl ⟨w1, hw, rfl, rfl⟩) (da_cons (de_cd U.standing (hr.mono (by omega)) (by rfl) (da_cons (de_var 3) da_nil) rfl ⟨v1, hv, rfl, rfl⟩) da_nil)) rfl ⟨_, _, std_wd hw, std_wd hv, rfl, rfl⟩)) (de_var 4) rfl rfl)) ?_) (fun hk => by cases hk) fun _ => sds_nil ?_)
  · rw [eqv_W, due_std hw hv, ← hdue]
    cases due <;> rfl
  -- turned
  obtain ⟨M, hM⟩ : ∃ M, M = (w1 ++ v1).foldl max 1 := ⟨_, rfl⟩
  have hM1 : 1 ≤ M := hM ▸ (WS.foldl_max_ge (w1 ++ v1) 1).1
  have hMx : ∀ x ∈ w1 ++ v1, x ≤ M := hM ▸ (WS.foldl_max_ge (w1 ++ v1) 1).2
  have hM2 : M ≤ 12 := hM ▸ WS.foldl_max_le (w1 ++ v1) 1 12 (by decide) fun x hx => by
    rcases List.mem_append.mp hx with m | m
    · exact (hw.2 x m).2
    · exact (hv.2 x m).2
  have hcat : (([PyData.int 1] ++ w1.map .int) ++ v1.map .int) = (1 :: (w1 ++ v1)).map .int := by
    rw [List.map_cons, List.map_append]
    rfl
  have c1 : ([PyData.int 1] : List PyData).length + (w1.map PyData.int).length ≤ 100000 := by rw [List.length_map]; simp; omega
  have c2 : ([PyData.int 1] ++ w1.map PyData.int).length + (v1.map PyData.int).length ≤ 100000 := by rw [List.length_append, List.length_map, List.length_map]; simp; omega
  refine sds_cons (sd_set c_law_right.nd (i := 6) rfl (by exact Or.inl rfl) (ed_addI (P1 := fun i => i = M) (P3 := fun i => M ≤ i ∧ i ≤ 12) (DE.i (DE.to (de_maxT rfl (u1 hr) (by rfl) B.max b_max (da_cons (DE.to (de_cat (de_cat (de_tup (da_cons de_int da_nil) (le5 rfl)) (de_var 2) c1) (de_var 3) c2) (by rw [hcat])) da_nil)) (by rw [hM])))
    (ed_tap 0 U.tap (hr.mono (by omega)) (by rfl) (fun t => t = 13 - M) (fun t h => by omega) (DE.i (de_sub de_int (DE.to (de_maxT rfl (u1 hr) (by rfl) B.max b_max (da_cons (DE.to (de_cat (de_cat (de_tup (da_cons de_int da_nil) (le5 rfl)) (de_var 2) c1) (de_var 3) c2) (by rw [hcat])) da_nil)) (by rw [hM]))))) fun i j h1 ⟨t, h2, h3, h4⟩ => by omega) fun d hd => ?_)
  obtain ⟨m, rfl, m1, m2⟩ := hd
  have hwm : ∀ x ∈ w1, x ≤ m := fun x hx => Int.le_trans (hMx x (List.mem_append_left _ hx)) m1
  have hvm : ∀ x ∈ v1, x ≤ m := fun x hx => Int.le_trans (hMx x (List.mem_append_right _ hx)) m1
  refine sds_cons (sd_ifD (k := false) (DT.to (dt_cmp (dc_ne (u64 hr) (de_cd U.alike.df (hr.mono (by omega)) (by rfl) (da_cons (de_cd U.turned (hr.mono (by omega)) (by rfl) (da_cons (de_var 2) (da_cons (de_var 6) da_nil)) rfl ⟨m, w1, hw, by omega, m2, hwm, rfl, rfl⟩) (da_cons (de_cd U.turned (hr.mono (by omega)) (by rfl) (da_cons (de_var 3) (da_cons (de_var 6) da_nil)) rfl ⟨m, v1, hv, by omega, m2, hvm, rfl, rfl⟩) da_nil)) rfl
    ⟨_, _, turn_wd hw m2 hwm, turn_wd hv m2 hvm, rfl, rfl⟩) (de_var 4) rfl rfl)) ?_) (fun hk => by cases hk) fun _ => sds_nil ?_)
  · rw [due_turn, ← hdue]
    cases due <;> rfl
  -- a letter more
  refine sds_cons (sd_set c_law_right.nd (i := 7) rfl (by exact Or.inl rfl) (ed_addI (P1 := fun i => i = 1) (P3 := fun i => 1 ≤ i ∧ i ≤ 12) (DE.i de_int) (ed_tap 0 U.tap (hr.mono (by omega)) (by rfl) (fun t => t = 12) (fun t h => by omega) (DE.i de_int)) fun i j h1 ⟨t, h2, h3, h4⟩ => by omega) fun d hd => ?_)
  obtain ⟨x, rfl, hx⟩ := hd
  refine sds_seq (fun δ' => δ' = [.csk, .dat d, .dat (dW w1), .dat (dW v1), .dat (.bool due), t5, .dat (.int m), .dat (.int x)]) (sd_ifD (dt_w (dw_and (dt_val (de_var 4)) fun _ => dw_and1 (dt_cmp (dc_lt (de_len (by rfl) B.len b_len (da_cons (de_var 2) da_nil)) de_int)))) (fun hk => ?_) fun _ => sds_nil rfl) fun δ' hδ => ?_
  · obtain ⟨k1, k2⟩ := Bool.and_eq_true_iff.mp hk
    have ha := yes k1
    have hwl2 : w1.length < 12 := by have := of_decide_eq_true k2; rw [dW_len] at this; omega
    have hvl2 : v1.length < 12 := by rw [(WS.alike_perm ha).length_eq]; exact hwl2
    have cw : (w1.map PyData.int).length + [PyData.int x].length ≤ 100000 := by rw [List.length_map]; simp; omega
    have cv : (v1.map PyData.int).length + [PyData.int x].length ≤ 100000 := by rw [List.length_map]; simp; omega
    have cw2 : [PyData.int x].length + (w1.map PyData.int).length ≤ 100000 := by rw [List.length_map]; simp; omega
    have cv2 : [PyData.int x].length + (v1.map PyData.int).length ≤ 100000 := by rw [List.length_map]; simp; omega
    have sn : ∀ u : List Int, PyData.tuple (u.map .int ++ [.int x]) = dW (u ++ [x]) := fun u => by
      show _ = PyData.tuple ((u ++ [x]).map .int)
      rw [List.map_append]
      rfl
    refine sds_one (sd_ifD (k := false) (DT.to (dt_w (dw_or (dt_not (dt_val (de_cd U.alike.df (hr.mono (by omega)) (by rfl) (da_cons (DE.to (de_cat (de_var 2) (de_tup (da_cons (de_var 7) da_nil) (le5 rfl)) cw) (sn w1)) (da_cons (DE.to (de_cat (de_var 3) (de_tup (da_cons (de_var 7) da_nil) (le5 rfl)) cv) (sn v1)) da_nil)) rfl ⟨_, _, snoc_wd hw hwl2 hx, snoc_wd hv hvl2 hx, rfl, rfl⟩))) fun _ =>
      dw_or1 (dt_not (dt_val (de_cd U.alike.df (hr.mono (by omega)) (by rfl) (da_cons (de_cat (de_tup (da_cons (de_var 7) da_nil) (le5 rfl)) (de_var 2) cw2) (da_cons (de_cat (de_tup (da_cons (de_var 7) da_nil) (le5 rfl)) (de_var 3) cv2) da_nil)) rfl ⟨x :: w1, x :: v1, cons_wd hw hwl2 hx, cons_wd hv hvl2 hx, rfl, rfl⟩))))) ?_) (fun hk => by cases hk) fun _ => sds_nil rfl)
    rw [decide_eq_true (WS.alike_behind ha x), decide_eq_true (WS.alike_ahead ha x)]
    rfl
  subst hδ
  -- the word with itself
  refine sds_cons (sd_ifD (k := false) (DT.to (dt_w (dw_or (dt_not (dt_val (de_cd U.alike.df (hr.mono (by omega)) (by rfl) (da_cons (de_var 2) (da_cons (de_var 2) da_nil)) rfl ⟨w1, w1, hw, hw, rfl, rfl⟩))) fun _ => dw_or1 (dt_not (k := true) (dt_val (de_cd U.cright (hr.mono (by omega)) (by rfl) (da_cons (de_var 2) (da_cons (de_var 2) (da_cons (DE.to (de_cd U.chain.df (hr.mono (by omega)) (by rfl) (da_cons (de_var 2) (da_cons (de_var 2) da_nil)) rfl ⟨w1, w1, hw, hw, rfl, rfl⟩) (ch_alike rfl)) da_nil))) rfl ⟨w1, w1, _, hw, WS.between_path rfl, rfl, rfl⟩))))) ?_) (fun hk => by cases hk) fun _ => sds_nil ?_)
  · rw [decide_eq_true rfl]
    rfl
  -- totals
  refine sds_one (sd_ifD (k := false) (DT.to (dt_w (dw_and (k' := false) (dt_val (de_var 4)) fun hk => dw_and1 (DT.to (dt_not (dt_cmp (dc_eqL (u64 hr) (er_fresh (df_cd U.totals (hr.mono (by omega)) (by rfl) (da_cons (de_var 2) da_nil) rfl ⟨w1, hw, rfl, rfl⟩)) (er_fresh (df_cd U.totals (hr.mono (by omega)) (by rfl) (da_cons (de_var 3) da_nil) rfl ⟨v1, hv, rfl, rfl⟩)) (shaped_LI _) (shaped_LI _)))) ?_))) ?_) (fun hk => by cases hk) fun _ => sds_nil ⟨_, _, _, _, _, _, _, rfl⟩)
  · rw [eqv_LI, decide_eq_true (tots_alike (yes hk))]
    rfl
  · cases due <;> rfl
end
end WL

set_option maxRecDepth 100000
set_option maxHeartbeats 4000000
namespace WL
open PySem PySem.Spec PyProof.Rows L2
/-! ### defs that are called where no repr is under way -/
structure FnG (P : Program) (w : World) (K : PySem.W.Frag) (mg : Str → Option Value) (base : Heap) (k : Nat) (f : Addr) (fd : FuncData) (ps : List Str) (sp : Sp) : Prop where
  len : ∀ vs H Q E, sp vs H Q E → vs.length = ps.length
  run : ∀ (A : Around) (outer : List Env) (s : Shared) (H : Hp) (args : Args) (us : List Value) (vs : List V) (Q : VK) (E : XK), A.guards = some [] → Room k A → Env0 P w K mg base A outer s H → BindsTo s fd args (ps.zip us) → Vals vs us → sp vs H Q E → codeAny (model P w) A (.call (.ref f) args) (CR CX0 outer P w H s Q E) s
section
variable {P : Program} {w : World} {K : PySem.W.Frag} {mg : Str → Option Value} {base : Heap} {x : Str} {st : Stmt} {f : Addr} {fd : FuncData} {N ps : List Str} {k : Nat} {sp : Sp}
theorem fnG_of (F : Fun K x x st f fd) (sc : FnScope N ps (defScope st)) (len : ∀ vs H Q E, sp vs H Q E → vs.length = ps.length)
    (body : ∀ (cdv : Value) (A : Around) (outer : List Env) (s : Shared) (H : Hp) (vs : List V) (Q : VK) (E : XK), A.guards = some [] → Room k (A.deeper (envOfC x (defScope st) s.heap.objs.size f cdv)) → sp vs H Q E →
      ∃ t, PSs (CxF P w K mg base N x st f cdv A outer s H E) (defBody st) t ∧ t { nx := fun _ H' => Q .non H', rt := Q } (L2.start N vs) H) : FnG P w K mg base (k + 1) f fd ps sp := by
  obtain ⟨oc, od, kV, doc, pm, an, cdv, ct, osl, rfl, lk, hcd⟩ := F.ex
  refine ⟨len, fun A outer s H args us vs Q E hG hr e0 hb r hs => ?_⟩
  have up : ∀ b o, base.get? b = some o → s.heap.get? b = some o := fun b o q => (e0.bs b o q).1
  have kin : K.In s.heap := e0.mod.kin.keeps up
  have kinds : ∀ y ∈ ps.zip us, (defScope st).names.lookup y.1 = some .local ∨ ((defScope st).names.lookup y.1 = some .cell ∧ ((cellsFrom (s.heap.objs.size + 1) (defScope st).names []).lookup y.1).isSome = true) := by
    rintro ⟨n, u⟩ hy
    exact (sc.par n (List.of_mem_zip hy).1).imp id fun q => ⟨q, PySem.W.cellsFrom_some _ _ _ (.inl q)⟩
  refine codeAny_call_function hr.depth (kin _ _ lk) rfl sc.co sc.gen rfl (PySem.W.codeRec_of kin hcd) (hb _ _ _ _ (wpAny_newFunctionEnv_cells sc.kind kinds fun env he s1 xx => ?_))
  subst he
  refine ⟨(e0.mod.nolimit.keeps up).keeps xx.toInCall.keep, codeAny_func ?_⟩
  obtain ⟨t, h1, h2⟩ := body cdv A outer s H vs Q E hG (hr.deeper _) hs
  refine wpAny_mono (h1.nox.run [] s1 (L2.start N vs) H _ (inv_start sc hr.hd e0 (len vs H Q E hs) r xx) h2) (fun fl s' z => ?_) fun e s' z => z
  cases fl with
  | ret u => exact let ⟨v, σ', H', J, rv, q⟩ := z; ⟨v, H', J.os, J.bare, J.base, J.hok, rv, q⟩
  | next => exact let ⟨σ', H', J, q⟩ := z; ⟨V.non, H', J.os, J.bare, J.base, J.hok, rfl, q⟩
  | brk => exact let ⟨_, _, _, q⟩ := z; q.elim
  | cont => exact let ⟨_, _, _, q⟩ := z; q.elim
end
section
variable {X : Cx} {x : Str} {p pos : Pos} {e : Expr} {es : List Expr} {t : TA} {f : Addr} {fd : FuncData} {ps : List Str} {k : Nat} {sp : Sp}
theorem pe_callG (F : FnG X.prog X.w X.K X.mg X.base k f fd ps sp) (hG : X.A.guards = some []) (hr : Room k X.A) (hg : Gl X x) (hm : X.mg x = some (.ref f)) (hk : PySem.W.keepIn X.K (.ref f) = true) (hb : Binds X.K fd ps []) (ha : PA X (e :: es) t)
    (hdb : (x == ("__debug__" : Str)) = false := by decide) (he : starEach (e :: es) X.env = (false, eval e X.env) :: starEach es X.env := by rfl) (hpl : (backTo pos (starEach es X.env)).any (·.1) = false := by rfl) : PE X (.Call (.Name x p) (e :: es) [] pos) (fun σ H Q => t σ H fun vs H1 => sp vs H1 Q E0) := by
  refine ⟨fun pins s σ H Q I h => wpAny_Call_Name_kw (ld_glob I hg hm (PySem.W.callWith_K (h₀ := X.base) I.ok.mod.kin hk (thn (ha.run pos pins s σ H _ I h) fun us s1 ⟨vs, H1, I1, r, q⟩ => ⟨I1.kIn, ?_⟩) he hpl) hdb)⟩
  have hl : us.length = ps.length := by rw [← r.length]; exact F.len _ _ _ _ q
  have hbb := hb s1 us I1.kIn (by rw [List.append_nil]; exact hl)
  rw [List.append_nil] at hbb
  refine wpAny_call (codeAny_mono (F.run X.A X.stack s1 H1 ⟨us, []⟩ us vs Q E0 hG hr I1.env0 hbb r q) fun rr s' z => ?_)
  match rr, z with
  | .error _, z => exact (show False from z).elim
  | .ok (.ret _), z => exact I1.after z
end
/-! ### the law's turn, the law -/
section
variable {P : Program} {w : World} {K : PySem.W.Frag} {mg : Str → Option Value} {base : Heap} {f : Addr} {fd : FuncData}
/-- the cask in, True out -/
def spTrue (K : PySem.W.Frag) : Sp := fun vs H Q _ => ∃ p : Addr, vs = [.ref p] ∧ CaskAt H p ∧ ∀ H', ExC (some p) H H' → Q (.bl true) H'
theorem f_law_right (B : Bi mg) (U : Subs P w K mg base) (F : Fun K "_law_right" "_law_right" s_law_right f fd) : FnG P w K mg base 9 f fd ["_law_cask_here"] (spTrue K) := by
  refine fnG_of F c_law_right (fun vs H Q E ⟨_, e, _⟩ => by rw [e]; rfl) fun cdv A outer s H vs Q E hG hr ⟨p, e, hc, q⟩ => ?_
  subst e
  refine ⟨_, b_law_right B U f cdv A outer s H E p hG hr, H, rep_startG rfl (Nat.le_of_ble_eq_true rfl) (fun i sl hi => ?_) (fun i a o z => ?_) (fun p' e => by cases e; exact hc), ⟨fun _ _ _ _ z => z.elim, fun v H' r x' ok e => ?_, fun _ _ _ _ z => z.elim, fun _ _ _ _ z => z.elim⟩⟩
  · match i, hi with
    | 0, hi =>
      cases hi
      exact ⟨p, rfl, start_at rfl⟩
  · match i, z with
    | 0, z => exact z
  · subst e
    cases ok
    exact q H' x'
end
end WL

set_option maxRecDepth 100000
set_option maxHeartbeats 4000000
namespace WL
open PySem PySem.Spec PyProof.Rows L2
section
variable {P : Program} {w : World} {K : PySem.W.Frag} {mg : Str → Option Value} {base : Heap} {f fR : Addr} {fd fdR : FuncData}
abbrev s_law : Stmt := topS 63
theorem c_law : FnScope ["_law_cells", "_law_casks", "_law_k", "_law_cask_here"] ["_law_cells"] (defScope s_law) := ⟨rfl, rfl, rfl, by decide +kernel, rfl, by decide +kernel, by decide +kernel⟩
/-- the script in, True out -/
def spLaw (K : PySem.W.Frag) : Sp := fun vs H Q _ => ∃ (a : Addr) (ns : List Int), vs = [.ref a] ∧ SqL K H a (ns.map V.int) ∧ ns.length ≤ 63 ∧ ∀ H', Q (.bl true) H'
theorem cask_ex {H H' : Hp} {q : Addr} (x : ExC none H H') (h : CaskAt H q) : CaskAt H' q :=
  let ⟨a, b, n, e⟩ := h
  ⟨a, b, n, x.ex q _ (fun z => nomatch z) e⟩
theorem cask_ne {H : Hp} {q l : Addr} {o : HO} (h : CaskAt H q) (n : q ≠ l) : CaskAt (upd H l o) q :=
  let ⟨a, b, k, e⟩ := h
  ⟨a, b, k, by rw [upd_ne n]; exact e⟩
theorem f_law (B : Bi mg) (D1 : Df P w K mg base "_law_cask" 1 ["_law_cells", "_law_k"] (spK K)) (DR : FnG P w K mg base 9 fR fdR ["_law_cask_here"] (spTrue K)) (gR : mg "_law_right" = some (.ref fR)) (kR : PySem.W.keepIn K (.ref fR) = true) (bR : Binds K fdR ["_law_cask_here"] [])
    (F : Fun K "law" "law" s_law f fd) : FnG P w K mg base 10 f fd ["_law_cells"] (spLaw K) := by
  refine fnG_of F c_law (fun vs H Q E ⟨_, _, e, _⟩ => by rw [e]; rfl) fun cdv A outer s H vs Q E hG hr ⟨a, ns, e, hs, hl, q⟩ => ?_
  subst e
  obtain ⟨frs, g1, g2⟩ := sq_fr hs
  have hrd : isRd K none (.frg false a frs) ns := ⟨a, frs, rfl, (fun z => nomatch z), g2⟩
  have r0 : Rep none K H H (L2.start ["_law_cells", "_law_casks", "_law_k", "_law_cask_here"] [.ref a]) (startD ["_law_cells", "_law_casks", "_law_k", "_law_cask_here"] [.frg false a frs]) := rep_startG rfl (Nat.le_of_ble_eq_true rfl) (fun i sl hi => by
    match i, hi with
    | 0, hi =>
      cases hi
      exact ⟨start_at rfl, fun x hx => ⟨(fun z => nomatch z), (fun z => nomatch z), (g1 x hx).2, fun z => nomatch z⟩⟩) (fun i a o z => by
    match i, z with
    | 0, z => exact z) fun _ z => nomatch z
  obtain ⟨fc, fdc, FC, hmC, hkC, hbC⟩ := D1.ex
  refine ⟨_, pss_cons (ps_setLc (i := 1) (own := [("_law_k", 2)]) rfl c_law.nd rfl rfl (sw_true rfl rfl rfl rfl)
    (ei_range1 (c := none) (δ := startD ["_law_cells", "_law_casks", "_law_k", "_law_cask_here"] [.frg false a frs]) (P := fun n => 2 ≤ n ∧ n ≤ 3) (by rfl) B.range (EA.mono (ea_cons (de_max2 (i := 2) (j := if (3 : Int) < (ns.length : Int) then 3 else (ns.length : Int)) rfl (by rfl) B.max b_max (da_cons de_int (da_cons (ED.mono (ed_min2 (P1 := fun i => i = (ns.length : Int)) (P2 := fun j => j = 3) rfl (by rfl) B.min b_min
      (EA.mono (ea_cons (DE.i (DE.to (de_lenR (by rfl) B.len b_len (ar_one (dr_sq 0 hrd))) (by rw [dW_len]))) (ea_cons (DE.i de_int) da_nil)) fun ds h => by
        obtain ⟨d, r, e1, ⟨i, e2, h2⟩, d', r', e3, ⟨j, e4, h4⟩, e5⟩ := h
        exact ⟨i, j, by rw [e1, e2, e3, e4, ← e5], h2, h4⟩)) fun d h => by
        obtain ⟨i, j, e, h1, h2⟩ := h
        rw [e, h1, h2]) da_nil))) da_nil) fun ds h => by
        obtain ⟨d, r, e1, e2, e3⟩ := h
        exact ⟨_, by rw [e1, ← e2, ← e3], by split <;> split <;> omega, by split <;> split <;> omega, by split <;> split <;> omega⟩))
    (blkOk_by (by rfl)) (fun s H C cl fp => pg_name (i := 2) c_law.nd rfl (by exact Or.inl rfl)) (fun _ _ _ _ _ => pts_nil) (fun s H C cl fp => pe_call FC (hr.mono (by omega)) (by rfl) hmC hkC hbC .nil pass0 (pa_cons (pe_var (i := 0) rfl (by first | exact Or.inl rfl | exact Or.inr (Or.inl rfl) | exact Or.inr (Or.inr rfl))) (pa_cons (pe_var (i := 2) rfl (by first | exact Or.inl rfl | exact Or.inr (Or.inl rfl) | exact Or.inr (Or.inr rfl))) pa_nil))))
    (pss_one (ps_ret (pe_callB (cr_all rfl) (by rfl) B.all b_all (pa_cons (pe_lc (own := [("_law_cask_here", 3)]) rfl c_law.nd (pi_list (pe_var (i := 1) rfl (by exact Or.inl rfl))) (blkOk_by (by rfl)) (fun s H C cl fp => pg_name (i := 3) c_law.nd rfl (by exact Or.inl rfl)) (fun _ _ _ _ _ => pts_nil)
      (fun s H C cl fp => pe_callG DR hG (hr.mono (by omega)) (by rfl) gR kR bR (pa_cons (pe_var (i := 3) rfl (by first | exact Or.inl rfl | exact Or.inr (Or.inl rfl) | exact Or.inr (Or.inr rfl))) pa_nil))) pa_nil)))), ?_⟩
  refine ⟨⟨H, r0⟩, fun J ds H1 x1 ⟨n, hn, hds⟩ it Dn hD => ?_⟩
  have r1 := r0.mono x1
  have mx : ∀ {H2 : Hp}, ExC none H1 H2 → ExC none (mask (ownA _ _) H1) H2 := fun x => (r1.rebase.base).trans x
  refine ⟨fun i m H2 => m = ds.length - i ∧ i ≤ ds.length ∧ ExC none H1 H2 ∧ ∃ qs : List Addr, H2 Dn = some (.lst (qs.map V.ref)) ∧ qs.length = i ∧ (Dn :: qs).Nodup ∧ ∀ q ∈ qs, CaskAt H2 q,
    ⟨ds.length, rfl, Nat.zero_le _, ExC.new hD, [], upd_same, rfl, List.nodup_cons.mpr ⟨List.not_mem_nil, List.nodup_nil⟩, fun q hq => nomatch hq⟩, ?_⟩
  rintro i m H2 ⟨rfl, hi, x2, qs, y1, y2, y3, y4⟩
  have cs : i = ds.length ∨ i < ds.length := by omega
  rcases cs with e | hlt
  · -- the casks stand: each one's turn
    refine .inl ⟨e ▸ it.stop H2 (mx x2), ?_⟩
    have hql : qs.length ≤ 3 := by rw [y2, e, hds, rangeD_len]; omega
    clear it mx r1 hds e hi
    refine ⟨_, rfl, Dn, rfl, ⟨_, SqL.of y1⟩, fun D2 hD2 => ?_⟩
    have n2 : Dn ≠ D2 := fun z => by rw [← z, y1] at hD2; cases hD2
    have n3 : ∀ q ∈ qs, q ≠ D2 := fun q hq z => by
      obtain ⟨_, _, _, k⟩ := y4 q hq
      rw [z, hD2] at k
      cases k
    refine ⟨fun j m H3 => m = qs.length - j ∧ j ≤ qs.length ∧ H3 Dn = some (.lst (qs.map V.ref)) ∧ (∀ q ∈ qs, CaskAt H3 q) ∧ H3 D2 = some (.lst ((List.replicate j true).map V.bl)),
      ⟨qs.length, rfl, Nat.zero_le _, by rw [upd_ne n2]; exact y1, fun q hq => cask_ne (y4 q hq) (n3 q hq), upd_same⟩, ?_⟩
    rintro j m H3 ⟨rfl, hj, z1, z2, z3⟩
    have hp2 : SqL K H3 Dn (qs.map V.ref) := SqL.of z1
    have cs2 : j = qs.length ∨ j < qs.length := by omega
    rcases cs2 with e2 | hlt2
    · refine .inl ⟨⟨_, hp2, by rw [List.length_map, e2]; exact Nat.le_refl _⟩, D2, List.replicate j true, rfl, SqL.of z3, ?_⟩
      have ea : (List.replicate j true).all id = true := List.all_eq_true.mpr fun b hb => (List.mem_replicate.mp hb).2
      rw [ea]
      exact q H3
    · have hq1 : (qs.map V.ref)[j]? = some (.ref qs[j]) := by rw [List.getElem?_map, List.getElem?_eq_getElem hlt2]; rfl
      have hqm : qs[j] ∈ qs := List.getElem_mem hlt2
      refine .inr ⟨⟨_, _, hp2, hq1⟩, fun H4 => H4 Dn = some (.lst (qs.map V.ref)) ∧ (∀ q ∈ qs, CaskAt H4 q) ∧ H4 D2 = some (.lst ((List.replicate (j + 1) true).map V.bl)), fun H4 ⟨a1, a2⟩ => ⟨qs.length - (j + 1), by omega, rfl, hlt2, a1, a2⟩, fun v H4 yy => ?_⟩
      obtain ⟨rfl, yy⟩ := yy
      have hv : v = .ref qs[j] := Option.some.inj ((yy _ hp2).symm.trans hq1)
      subst hv
      refine ⟨(wipe_set List.mem_cons_self).trans wipe_wipe, ?_⟩
      dsimp only [tYes]
      rw [if_pos (rfl : true = true)]
      refine ⟨_, rfl, qs[j], rfl, z2 _ hqm, fun H' x' => ?_⟩
      have nD2 : (some qs[j] : Option Addr) ≠ some D2 := fun z => n3 _ hqm (Option.some.inj z)
      have nDn : (some qs[j] : Option Addr) ≠ some Dn := fun z => (List.nodup_cons.mp y3).1 (Option.some.inj z ▸ hqm)
      refine ⟨_, x'.ex D2 _ nD2 z3, by rw [List.length_map, List.length_replicate]; exact Nat.lt_of_le_of_lt (show j ≤ 1000 by omega) (by decide), ?_, fun q hq => cask_ne ?_ (n3 q hq), ?_⟩
      · rw [upd_ne n2]
        exact x'.ex Dn _ nDn z1
      · by_cases hc : q = qs[j]
        · exact x'.ck q (by rw [hc]) (z2 q hq)
        · obtain ⟨c1, c2, c3, c4⟩ := z2 q hq
          exact ⟨c1, c2, c3, x'.ex q _ (fun z => hc (Option.some.inj z).symm) c4⟩
      · rw [upd_same, List.replicate_succ', List.map_append]
        rfl
  · refine .inr ⟨it.go i H2 hlt (mx x2), fun H3 => ExC none H1 H3 ∧ ∃ qs : List Addr, H3 Dn = some (.lst (qs.map V.ref)) ∧ qs.length = i + 1 ∧ (Dn :: qs).Nodup ∧ ∀ q ∈ qs, CaskAt H3 q, fun H3 ⟨a1, a2⟩ => ⟨ds.length - (i + 1), by omega, rfl, hlt, a1, a2⟩, fun v H3 y => ?_⟩
    obtain ⟨x3, d, hd, td⟩ := it.yld i H2 v H3 hlt (mx x2) y
    have hdl : ds.length ≤ 3 := by rw [hds, rangeD_len]; omega
    have hdi : d = .int (i : Int) := by
      rw [hds, rangeD_at (by rw [hds, rangeD_len] at hlt; exact hlt), Int.zero_add] at hd
      exact (Option.some.inj hd).symm
    subst hdi
    cases td
    refine ⟨(wipe_set List.mem_cons_self).trans wipe_wipe, ?_⟩
    dsimp only [tYes]
    rw [if_pos (rfl : true = true)]
    refine ⟨_, rfl, _, rfl, a, ns, i, rfl, sqL_ex ((x1.trans x2).trans x3) (fun z => nomatch z) hs, hl, by omega, fun p H' x' hp hc => ?_⟩
    have y13 := x3.ex Dn _ (fun z => nomatch z) y1
    have y1' := x'.ex Dn _ (fun z => nomatch z) y13
    have x12 := (x2.trans x3).trans x'
    have npD : p ≠ Dn := fun z => by rw [z, y13] at hp; cases hp
    have npq : p ∉ qs := fun hm => by
      obtain ⟨_, _, _, k⟩ := cask_ex x3 (y4 p hm)
      rw [hp] at k
      cases k
    obtain ⟨nd1, nd2⟩ := List.nodup_cons.mp y3
    refine ⟨_, y1', by rw [List.length_map]; exact Nat.lt_of_le_of_lt (show qs.length ≤ 1000 by omega) (by decide), ⟨fun b o nb hb => ?_, (fun _ z => nomatch z), x12.te.trans ?_⟩, qs ++ [p], ?_, by rw [List.length_append, y2]; rfl, ?_, fun q hq => ?_⟩
    · rw [upd_ne fun z => by rw [z, hD] at hb; cases hb]
      exact x12.ex b o nb hb
    · exact mutO_te (P := fun b => b = Dn) (fun b o nb hb => by rw [upd_ne nb]; exact hb) fun b e o hb => by
        rw [e, y1'] at hb
        cases hb
        rfl
    · rw [upd_same, List.map_append]
      rfl
    · refine List.nodup_cons.mpr ⟨fun hm => ?_, List.nodup_append.mpr ⟨nd2, List.nodup_cons.mpr ⟨List.not_mem_nil, List.nodup_nil⟩, fun b hb c hc e => ?_⟩⟩
      · rcases List.mem_append.mp hm with hm | hm
        · exact nd1 hm
        · exact npD (List.mem_singleton.mp hm).symm
      · have : c = p := by simpa using hc
        exact npq (this ▸ e ▸ hb)
    · rcases List.mem_append.mp hq with hm | hm
      · exact cask_ne (cask_ex x' (cask_ex x3 (y4 q hm))) fun z => nd1 (z ▸ hm)
      · have : q = p := by simpa using hm
        subst this
        exact cask_ne hc npD
end
end WL

set_option maxRecDepth 100000
set_option maxHeartbeats 0
namespace WL
open PySem PySem.Spec PyProof.Rows L2
def dd (x : Str) (i : Nat) : He.DefD := ⟨(x, none), x, x, defArgs (topS i), defBody (topS i), defScope (topS i), [], []⟩
def fn0 : List He.DefD := [dd "is_number" 10, dd "flipped_of" 11, dd "is_integer" 13, dd "is_within" 14, dd "is_letter" 15, dd "is_word" 16, dd "check_word" 17, dd "check_most" 18, dd "amounts_of" 19, dd "amounts" 20, dd "standing_of" 21, dd "standing" 22, dd "turned_of" 23, dd "turned" 24, dd "word_of_rows" 26, dd "put_in_row" 27, dd "put_in_rows" 28, dd "rows_of_word" 29, dd "shape_of" 30, dd "fresh_three" 32]
def fn1 : List He.DefD := [dd "word_after" 33, dd "moved" 34, dd "are_alike" 35, dd "check_two" 36, dd "alike" 37, dd "put_steps" 38, dd "steps_down" 39, dd "steps_between" 40, dd "chain" 41, dd "lengths_for" 43, dd "check_asked" 44, dd "rising_total" 45, dd "falling_total" 46, dd "_law_cask" 48, dd "_law_tap" 49, dd "_law_which" 50, dd "_law_letters" 51, dd "_law_put" 52, dd "_law_tuples" 53, dd "_law_grown" 54]
def fn2 : List He.DefD := [dd "_law_spelled" 55, dd "_law_three" 56, dd "_law_number" 57, dd "_law_mixed_by_moves" 58, dd "_law_other" 59, dd "_law_chain_right" 60, dd "_law_totals" 61, dd "_law_right" 62, dd "law" 63]
def hFn : List He.DefD := fn0 ++ fn1 ++ fn2
def fa0 : List He.Fa := [.free "len", .free "isinstance", .free "int", .free "bool", .free "tuple", .free "list", .free "all", .free "any", .free "max", .free "min", .free "sum", .free "sorted", .free "abs", .free "divmod", .free "repr", .free "range", .free "enumerate"]
def fa1 : List He.Fa := [.int "MOST_LETTER" 12, .int "MOST_LONG" 12]
def fb0 : List He.Fa := [.glo "is_number", .glo "flipped_of", .glo "is_integer", .glo "is_within", .glo "is_letter", .glo "is_word", .glo "check_word", .glo "check_most", .glo "amounts_of", .glo "amounts", .glo "standing_of", .glo "standing", .glo "turned_of", .glo "turned", .glo "word_of_rows", .glo "put_in_row", .glo "put_in_rows", .glo "rows_of_word", .glo "shape_of", .glo "fresh_three"]
def fb1 : List He.Fa := [.glo "word_after", .glo "moved", .glo "are_alike", .glo "check_two", .glo "alike", .glo "put_steps", .glo "steps_down", .glo "steps_between", .glo "chain", .glo "lengths_for", .glo "check_asked", .glo "rising_total", .glo "falling_total", .glo "_law_cask", .glo "_law_tap", .glo "_law_which", .glo "_law_letters", .glo "_law_put", .glo "_law_tuples", .glo "_law_grown"]
def fb2 : List He.Fa := [.glo "_law_spelled", .glo "_law_three", .glo "_law_number", .glo "_law_mixed_by_moves", .glo "_law_other", .glo "_law_chain_right", .glo "_law_totals", .glo "_law_right", .glo "law"]
def hFa : List He.Fa := fa0 ++ fa1 ++ fb0 ++ fb1 ++ fb2
def nm0 : List Str := ["WrongValue", "InvalidWord", "InvalidPlace", "InvalidNumber", "NoAnswer", "NoMove", "MOST_LETTER", "MOST_LONG", "is_number", "flipped_of", "is_integer", "is_within", "is_letter", "is_word", "check_word", "check_most", "amounts_of", "amounts", "standing_of", "standing"]
def nm1 : List Str := ["turned_of", "turned", "word_of_rows", "put_in_row", "put_in_rows", "rows_of_word", "shape_of", "fresh_three", "word_after", "moved", "are_alike", "check_two", "alike", "put_steps", "steps_down", "steps_between", "chain", "lengths_for", "check_asked", "rising_total"]
def nm2 : List Str := ["falling_total", "_law_cask", "_law_tap", "_law_which", "_law_letters", "_law_put", "_law_tuples", "_law_grown", "_law_spelled", "_law_three", "_law_number", "_law_mixed_by_moves", "_law_other", "_law_chain_right", "_law_totals", "_law_right"]
def hNames : List Str := nm0 ++ nm1 ++ nm2
abbrev hR : PySem.W.OpenRow := PySem.W.OpenLaw.row PySem.Challenge.rw_wordshapes_k12_whole_words_alike_and_cha
abbrev hHk : PySem.W.Hook := He.hookD 4 hFa hFn
def hOb (s : PySem.W.SharedT) : He.AlD := He.obsDG 4 hFa hFn (HandSHeadRun.getT s)
theorem hOb_eq (s : PySem.W.SharedT) : hOb s = hHk.obs s.abs := He.obsDG_eq (HandSHeadRun.getT_eq s)
theorem hRun (w : World) : HandSHeadRun.RunEq hR (PySem.W.view hR.prog [63]) hHk hOb 6000 hNames w := by
  intro os
  kernel_rfl
end WL

set_option maxRecDepth 100000
set_option maxHeartbeats 4000000
namespace WL
open PySem PySem.Spec PyProof.Rows L2
/-! ### the end: the law's promise at the heap behind the top, where no repr is under way -/
section
variable {P : Program} {w : World} {K : PySem.W.Frag} {mg mb : Str → Option Value} {k : Nat} {fa a : Addr} {fd : FuncData} {x : Str} {sp : Sp} {t : Shared} {vs : List Value} {ns : List Int}
/-- the end that is wanted -/
abbrev EndG (t : Shared) (r : Result) (t' : Shared) : Prop := r = .ok (.ret (.bool true)) ∧ OldK t.heap t'.heap ∧ t'.os = t.os ∧ AllBare t'.gens
theorem endG_core (kin : K.In t.heap) (gl : t.heap.Ns mainGlobals mg) (bl : t.heap.Ns builtinsNs mb) (bb : ∀ y : Str, y ≠ "__name__" → mb y = bootBuiltins y) (nl : t.heap.NoLimit) (ng : t.gens = #[]) (ha : t.heap.get? a = some { cls := .type "list", data := .seq vs.toArray }) (hr : Room k callerA)
    (F : ∀ base : Heap, K.In base → base.Ns mainGlobals mg → FnG P w K mg base k fa fd [x] sp) (hbind : ∀ (s : Shared) (u : Value), BindsTo s fd ⟨[u], []⟩ [(x, u)]) {H : Hp} (hO : Only H) (hok : HOk P w H t.heap) (hA : ∀ b, H b ≠ none → b = a) (hK : H a ≠ none → K.lookup a = none)
    (hs : sp [.ref a] H (fun v _ => v = .bl true) fun _ _ _ => False) : codeAny (model P w) callerA (.call (.ref fa) ⟨[.ref a], []⟩) (EndG t) t := by
  have free : ∀ {b : Addr}, b ≠ a → H b = none := fun {b} n => Classical.byContradiction fun z => n (hA b z)
  have nsOk : ∀ {b : Addr} {m : Str → Option Value}, t.heap.Ns b m → (hidT t.heap H).Ns b m := fun {b m} ⟨o, es, ep, e, d, r⟩ => ⟨o, es, ep, hidT_get e (free fun z => by
    rw [z, ha] at e
    cases e
    cases d), d, r⟩
  have kinB : K.In (hidT t.heap H) := fun b o e => hidT_get (kin b o e) (Classical.byContradiction fun z => by
    have hb := hA b z
    subst hb
    rw [hK z] at e
    cases e)
  obtain ⟨mc, l1, l2⟩ := nl
  have e0 : Env0 P w K mg (hidT t.heap H) callerA [] t H := ⟨rfl, ⟨kinB, nsOk gl, ⟨mb, nsOk bl, bb⟩, ⟨mc, nsOk l1, l2⟩⟩, fun b o e => of_hidT e, (hidT_size _ _).symm ▸ Nat.le_refl _, trivial, (fun b hb => nomatch hb), hok, .of_eq ng⟩
  refine codeAny_mono ((F _ kinB (nsOk gl)).run callerA [] t H ⟨[.ref a], []⟩ [.ref a] [.ref a] _ _ rfl hr e0 (hbind t (.ref a)) (.cons rfl .nil) hs) fun r t' z => ?_
  match r, z with
  | .error _, z => exact (show False from z).elim
  | .ok (.ret u), z =>
    obtain ⟨v, H', os, bare, un, hok', rr, hv⟩ := z
    have hv : v = .bl true := hv
    subst hv
    obtain rfl : u = Value.bool true := rr
    refine ⟨rfl, OldK.of_keep fun b o e => ?_, os, bare⟩
    cases hb : H b with
    | none => exact un.keep b o e hb (by intro z; cases z) (by simp)
    | some ho =>
      rcases hO b with z | ⟨ob, xs, z⟩
      · rw [hb] at z
        cases z
      · have e1 := (hok b _ z).1
        have e2 := (hok' b _ (un.frzs b ob _ z)).1
        rw [e] at e1
        cases e1
        exact e2
theorem endG (kin : K.In t.heap) (gl : t.heap.Ns mainGlobals mg) (bl : t.heap.Ns builtinsNs mb) (bb : ∀ y : Str, y ≠ "__name__" → mb y = bootBuiltins y) (nl : t.heap.NoLimit) (ng : t.gens = #[]) (ha : t.heap.get? a = some { cls := .type "list", data := .seq vs.toArray }) (hi : IntsAre vs ns) (hl : ns.length ≤ sizeLine) (hr : Room k callerA)
    (F : ∀ base : Heap, K.In base → base.Ns mainGlobals mg → FnG P w K mg base k fa fd [x] sp) (hbind : ∀ (s : Shared) (u : Value), BindsTo s fd ⟨[u], []⟩ [(x, u)]) (hsp : ∀ H : Hp, SqL K H a (ns.map V.int) → sp [.ref a] H (fun v _ => v = .bl true) fun _ _ _ => False) : codeAny (model P w) callerA (.call (.ref fa) ⟨[.ref a], []⟩) (EndG t) t := by
  have rv := vals_ints hi
  have hsz : vs.toArray.size ≤ sizeLine := by rw [List.size_toArray, hi.length]; exact hl
  cases hk : K.lookup a with
  | some o =>
    have e := kin a o hk
    rw [ha] at e
    cases e
    refine endG_core (H := fun _ => none) kin gl bl bb nl ng ha hr F hbind (fun _ => .inl rfl) (fun b u z => nomatch z) (fun b z => absurd rfl z) (fun z => absurd rfl z) (hsp _ (.inr ⟨_, vs.toArray, _, hk, rfl, rfl, rfl, hsz, by simpa using rv⟩))
  | none =>
    let HA : Hp := fun b => if b = a then some (.frz { cls := .type "list", data := .seq vs.toArray } (.lst (ns.map V.int))) else none
    have at_ : HA a = some (.frz { cls := .type "list", data := .seq vs.toArray } (.lst (ns.map V.int))) := if_pos rfl
    have off : ∀ {b : Addr}, b ≠ a → HA b = none := fun n => if_neg n
    refine endG_core (H := HA) kin gl bl bb nl ng ha hr F hbind (fun b => ?_) (fun b u z => ?_) (fun b z => Classical.byContradiction fun n => z (off n)) (fun _ => hk) (hsp _ (.inl (.inr ⟨_, at_⟩)))
    · by_cases n : b = a
      · exact .inr ⟨_, _, n ▸ at_⟩
      · exact .inl (off n)
    · by_cases n : b = a
      · subst n
        cases at_.symm.trans z
        exact ⟨ha, by rw [List.length_map]; exact hl, vs, _, rv, ha⟩
      · cases (off n).symm.trans z
end
end WL

set_option maxRecDepth 100000
set_option maxHeartbeats 4000000
namespace WL
open PySem PySem.Spec PyProof.Rows L2
theorem fun_of {K : PySem.W.Frag} {x : Str} {st : Stmt} {f : Addr} {fd : FuncData} (F : FunD K x x (defArgs st) (defBody st) (defScope st) [] [] f fd) : Fun K x x st f fd := by
  obtain ⟨oc, od, dV, kV, doc, pm, an, cdv, ct, osl, rfl, lk, hcd, hD, hK⟩ := F.ex
  rcases hD with ⟨_, rfl⟩ | ⟨e, _⟩
  · exact ⟨⟨oc, od, kV, doc, pm, an, cdv, ct, osl, rfl, lk, hcd⟩, F.kp⟩
  · exact absurd rfl e
section
variable {K : PySem.W.Frag} {h : Heap} {mg : Str → Option Value}
theorem tx_of (X : K.In h) (G : h.Ns mainGlobals mg) (c : He.SaysD hFa hFn K) {x : Str} {i : Nat} (j l : Nat) (hj : hFn[j]? = some (dd x i) := by rfl) (hl : hFa[l]? = some (.glo x) := by rfl) : Tx K mg x (topS i) := by
  obtain ⟨fd, F⟩ := c.def_ j hj
  exact ⟨_, fd, fun_of F, He.glo_ok X G (c.fact l hl)⟩
theorem bi_of (X : K.In h) (G : h.Ns mainGlobals mg) (c : He.SaysD hFa hFn K) : Bi mg where
  len := He.free_ok X G (c.fact 0 (f := .free "len") rfl)
  isinstance := He.free_ok X G (c.fact 1 (f := .free "isinstance") rfl)
  int := He.free_ok X G (c.fact 2 (f := .free "int") rfl)
  bool := He.free_ok X G (c.fact 3 (f := .free "bool") rfl)
  tuple := He.free_ok X G (c.fact 4 (f := .free "tuple") rfl)
  list := He.free_ok X G (c.fact 5 (f := .free "list") rfl)
  all := He.free_ok X G (c.fact 6 (f := .free "all") rfl)
  any := He.free_ok X G (c.fact 7 (f := .free "any") rfl)
  max := He.free_ok X G (c.fact 8 (f := .free "max") rfl)
  min := He.free_ok X G (c.fact 9 (f := .free "min") rfl)
  sum := He.free_ok X G (c.fact 10 (f := .free "sum") rfl)
  sorted := He.free_ok X G (c.fact 11 (f := .free "sorted") rfl)
  abs := He.free_ok X G (c.fact 12 (f := .free "abs") rfl)
  divmod := He.free_ok X G (c.fact 13 (f := .free "divmod") rfl)
  repr := He.free_ok X G (c.fact 14 (f := .free "repr") rfl)
  range := He.free_ok X G (c.fact 15 (f := .free "range") rfl)
  enumerate := He.free_ok X G (c.fact 16 (f := .free "enumerate") rfl)
  letter := He.int_ok X G (c.fact 17 (f := .int "MOST_LETTER" 12) rfl)
  long := He.int_ok X G (c.fact 18 (f := .int "MOST_LONG" 12) rfl)
theorem law_ok (X : K.In h) (G : h.Ns mainGlobals mg) (c : He.SaysD hFa hFn K) : ∃ fd : FuncData, (∀ (s : Shared) (u : Value), BindsTo s fd ⟨[u], []⟩ [("_law_cells", u)]) ∧ ∀ (P : Program) (w : World) (base : Heap), FnG P w K mg base 10 (He.ga K "law") fd ["_law_cells"] (spLaw K) := by
  have B := bi_of X G c
  obtain ⟨fd, F⟩ := c.def_ 48 (d := dd "law" 63) rfl
  have F : Fun K "law" "law" s_law (He.ga K "law") fd := fun_of F
  refine ⟨fd, fun s u => ?_, fun P w base => ?_⟩
  · obtain ⟨oc, od, kV, doc, pm, an, cdv, ct, osl, rfl, _⟩ := F.ex
    exact .of_eq rfl
  have d_is_number := f_is_number (P := P) (w := w) (base := base) B (tx_of X G c (x := "is_number") (i := 10) 0 19)
  have d_is_integer := f_is_integer (P := P) (w := w) (base := base) B (tx_of X G c (x := "is_integer") (i := 13) 2 21)
  have d_is_within := f_is_within (P := P) (w := w) (base := base) B d_is_integer (tx_of X G c (x := "is_within") (i := 14) 3 22)
  have d_is_letter := f_is_letter (P := P) (w := w) (base := base) B d_is_within (tx_of X G c (x := "is_letter") (i := 15) 4 23)
  have d_is_word := f_is_word (P := P) (w := w) (base := base) B d_is_letter (tx_of X G c (x := "is_word") (i := 16) 5 24)
  have d_check_word := f_check_word (P := P) (w := w) (base := base) d_is_word (tx_of X G c (x := "check_word") (i := 17) 6 25)
  have d_check_most := f_check_most (P := P) (w := w) (base := base) B d_is_letter (tx_of X G c (x := "check_most") (i := 18) 7 26)
  have d_amounts_of := f_amounts_of (P := P) (w := w) (base := base) B (tx_of X G c (x := "amounts_of") (i := 19) 8 27)
  have d_amounts := f_amounts (P := P) (w := w) (base := base) d_check_word d_amounts_of (tx_of X G c (x := "amounts") (i := 20) 9 28)
  have d_standing_of := f_standing_of (P := P) (w := w) (base := base) B (tx_of X G c (x := "standing_of") (i := 21) 10 29)
  have d_standing := f_standing (P := P) (w := w) (base := base) d_check_word d_standing_of (tx_of X G c (x := "standing") (i := 22) 11 30)
  have d_turned_of := f_turned_of (P := P) (w := w) (base := base) B (tx_of X G c (x := "turned_of") (i := 23) 12 31)
  have d_turned := f_turned (P := P) (w := w) (base := base) d_check_word d_check_most d_turned_of (tx_of X G c (x := "turned") (i := 24) 13 32)
  have d_word_of_rows := f_word_of_rows (P := P) (w := w) (base := base)  (tx_of X G c (x := "word_of_rows") (i := 26) 14 33)
  have d_put_in_row := f_put_in_row (P := P) (w := w) (base := base) B (tx_of X G c (x := "put_in_row") (i := 27) 15 34)
  have d_put_in_rows := f_put_in_rows (P := P) (w := w) (base := base) B d_put_in_row (tx_of X G c (x := "put_in_rows") (i := 28) 16 35)
  have d_rows_of_word := f_rows_of_word (P := P) (w := w) (base := base) d_put_in_rows (tx_of X G c (x := "rows_of_word") (i := 29) 17 36)
  have d_shape_of := f_shape_of (P := P) (w := w) (base := base) B (tx_of X G c (x := "shape_of") (i := 30) 18 37)
  have d_flipped_of := f_flipped_of (P := P) (w := w) (base := base) B (tx_of X G c (x := "flipped_of") (i := 11) 1 20)
  have d_fresh_three := f_fresh_three (P := P) (w := w) (base := base)  (tx_of X G c (x := "fresh_three") (i := 32) 19 38)
  have d_word_after := f_word_after (P := P) (w := w) (base := base) B d_fresh_three (tx_of X G c (x := "word_after") (i := 33) 20 39)
  have d_moved := f_moved (P := P) (w := w) (base := base) B d_check_word d_is_within d_word_after (tx_of X G c (x := "moved") (i := 34) 21 40)
  have d_are_alike := f_are_alike (P := P) (w := w) (base := base) d_rows_of_word (tx_of X G c (x := "are_alike") (i := 35) 22 41)
  have d_check_two := f_check_two (P := P) (w := w) (base := base) d_check_word (tx_of X G c (x := "check_two") (i := 36) 23 42)
  have d_alike := k_alike (P := P) (w := w) (base := base) d_check_two d_are_alike (tx_of X G c (x := "alike") (i := 37) 24 43)
  have d_put_steps := f_put_steps (P := P) (w := w) (base := base) B d_word_of_rows d_word_after (tx_of X G c (x := "put_steps") (i := 38) 25 44)
  have d_steps_down := f_steps_down (P := P) (w := w) (base := base) B d_rows_of_word d_put_steps (tx_of X G c (x := "steps_down") (i := 39) 26 45)
  have d_steps_between := f_steps_between (P := P) (w := w) (base := base) B d_steps_down (tx_of X G c (x := "steps_between") (i := 40) 27 46)
  have d_chain := k_chain (P := P) (w := w) (base := base) d_check_two d_are_alike d_steps_between (tx_of X G c (x := "chain") (i := 41) 28 47)
  have d_lengths_for := f_lengths_for (P := P) (w := w) (base := base) d_rows_of_word d_shape_of d_flipped_of (tx_of X G c (x := "lengths_for") (i := 43) 29 48)
  have d_check_asked := f_check_asked (P := P) (w := w) (base := base) B d_check_word d_is_number (tx_of X G c (x := "check_asked") (i := 44) 30 49)
  have d_rising_total := f_rising_total (P := P) (w := w) (base := base) B d_check_asked d_lengths_for (tx_of X G c (x := "rising_total") (i := 45) 31 50)
  have d_falling_total := f_falling_total (P := P) (w := w) (base := base) B d_check_asked d_lengths_for (tx_of X G c (x := "falling_total") (i := 46) 32 51)
  have d_law_cask := f_law_cask (P := P) (w := w) (base := base) B (tx_of X G c (x := "_law_cask") (i := 48) 33 52)
  have d_law_tap := f_law_tap (P := P) (w := w) (base := base) B (tx_of X G c (x := "_law_tap") (i := 49) 34 53)
  have d_law_which := f_law_which (P := P) (w := w) (base := base) B d_law_tap (tx_of X G c (x := "_law_which") (i := 50) 35 54)
  have d_law_letters := f_law_letters (P := P) (w := w) (base := base) B d_law_tap d_law_which (tx_of X G c (x := "_law_letters") (i := 51) 36 55)
  have d_law_put := f_law_put (P := P) (w := w) (base := base) B (tx_of X G c (x := "_law_put") (i := 52) 37 56)
  have d_law_tuples := f_law_tuples (P := P) (w := w) (base := base) B (tx_of X G c (x := "_law_tuples") (i := 53) 38 57)
  have d_law_grown := f_law_grown (P := P) (w := w) (base := base) d_law_put d_law_tuples (tx_of X G c (x := "_law_grown") (i := 54) 39 58)
  have d_law_spelled := f_law_spelled (P := P) (w := w) (base := base) B (tx_of X G c (x := "_law_spelled") (i := 55) 40 59)
  have d_law_three := f_law_three (P := P) (w := w) (base := base) B (tx_of X G c (x := "_law_three") (i := 56) 41 60)
  have d_law_number := f_law_number (P := P) (w := w) (base := base) B (tx_of X G c (x := "_law_number") (i := 57) 42 61)
  have d_law_mixed_by_moves := f_law_mixed_by_moves (P := P) (w := w) (base := base) B d_law_which d_law_three (tx_of X G c (x := "_law_mixed_by_moves") (i := 58) 43 62)
  have d_law_other := f_law_other (P := P) (w := w) (base := base) B d_law_tap d_law_mixed_by_moves d_law_spelled d_law_grown d_law_letters (tx_of X G c (x := "_law_other") (i := 59) 44 63)
  have d_law_chain_right := f_law_chain_right (P := P) (w := w) (base := base) B d_law_three d_law_number d_moved (tx_of X G c (x := "_law_chain_right") (i := 60) 45 64)
  have d_law_totals := f_law_totals (P := P) (w := w) (base := base) d_rising_total d_falling_total (tx_of X G c (x := "_law_totals") (i := 61) 46 65)
  obtain ⟨fdR, FR⟩ := c.def_ 47 (d := dd "_law_right" 62) rfl
  have FR : Fun K "_law_right" "_law_right" s_law_right (He.ga K "_law_right") fdR := fun_of FR
  have d_right := f_law_right (P := P) (w := w) (base := base) B ⟨d_law_tap, d_law_letters, d_law_other, d_law_grown, d_alike, d_chain, d_law_chain_right, d_amounts, d_standing, d_turned, d_law_totals⟩ FR
  exact f_law B d_law_cask d_right (He.glo_ok X G (c.fact 66 (f := .glo "_law_right") rfl)) FR.kp (FR.binds fun _ _ _ _ _ _ us hl => match us, hl with | [_], _ => rfl) F
end
end WL
open PySem PySem.W PySem.Calls PyProof.Rows
set_option maxHeartbeats 0 in
theorem PySem.Challenge.cw_wordshapes_k12_whole_words_alike_and_cha_holds : PySem.Challenge.rw_wordshapes_k12_whole_words_alike_and_cha.Holds := by
  w_on; o_law
  refine HandSHeadRun.head_any (r := WL.hR) (q := view WL.hR.prog [63]) (H := WL.hHk) (ob := WL.hOb) (M := 6000) (loose := WL.hNames) (d := HandSHeadRun.topDef WL.hR.prog 63) (kwd := []) WL.hOb_eq
    (by kernel_rfl) (fun s => by kernel_rfl) WL.hRun (by kernel_rfl) (by kernel_rfl) (by kernel_rfl) (by rfl) (by first | assumption | decide +kernel) (by decide +kernel) ⟨rfl, rfl, rfl, rfl, rfl, by decide +kernel⟩ ?hw ?hc
  case hw => w_witness2
  case hc =>
    refine Att.attach_call (l := PySem.Challenge.rw_wordshapes_k12_whole_words_alike_and_cha) (n := 63) rfl (by kernel_rfl) fun w s₀ s₁ mg mb fa o pm cd doc a vs ns G Y ho hd hcd hmg0 hobj hints hlen hg => ?_
    obtain ⟨K, KX, c⟩ := Y
    have hmg : mg ("law" : PySem.Str) = some (.ref fa) := by
      have e : (HandSHeadRun.topDef WL.hR.prog 63).name = ("law" : PySem.Str) := by kernel_rfl
      rw [← e]
      exact hmg0
    obtain ⟨fd, hb, hF⟩ := WL.law_ok KX G.T.g c
    have e := hmg.symm.trans (He.glo_ok KX G.T.g (c.fact 67 (f := .glo "law") rfl))
    cases e
    exact WL.endG KX G.T.g G.T.b G.T.builtins G.T.nolimit hg hobj hints (Nat.le_trans hlen (by decide)) ⟨rfl, by decide, by decide⟩ (fun base _ _ => hF _ w base) hb fun H hS => ⟨a, ns, rfl, hS, hlen, fun _ => rfl⟩

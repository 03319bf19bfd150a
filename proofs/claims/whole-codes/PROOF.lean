import PyProof.Rows.All
import Wide.All
import OpenK.AllK
import Wide.FinOn
import HandS.ForMost
import HandS.IsInst
import HandS.Conv
import HandS.TupAny
import HandS.SortInts
import HandS.Wide
import KE.KDictKeyed
import KE.SortData
import HandS.TupSets
import HandS.SetFor
import KE.GoesEnum
import KE.KIndexOf
import HandS.Walk
import KE.KDictWalk
import HandS.TupLen
import HandS.Ends
import HandS.Head0
import HandS.Head1
import HandS.Head2
import HandS.HeadEnd
import HandS.HeadHook1
import HandS.HeadHook2
import PySem.Challenge.RW_countdoors_k80_whole_codes_of_orders
set_option linter.all false
namespace CD
/-! the plain law: nests, orders, words, as lists of numbers -/
abbrev Nest := List (Option Nat)
def up (nest : Nest) (d : Nat) : Option Nat := nest.getD d none
structure Valid (nest : Nest) : Prop where
  pos : 1 ≤ nest.length
  few : nest.length ≤ 9
  par : ∀ k e, up nest k = some e → k < e ∧ e < nest.length
def aroundF (nest : Nest) : Nat → Nat → List Nat
  | 0, _ => []
  | f + 1, d => match up nest d with
    | none => []
    | some e => e :: aroundF nest f e
def around (nest : Nest) (d : Nat) : List Nat := aroundF nest nest.length d
def chain (nest : Nest) (d : Nat) : List Nat := d :: around nest d
def inside (nest : Nest) (d : Nat) : List Nat := (List.range d).filter fun k => (around nest k).contains d
def sizesStep (nest : Nest) (s : List Nat) (k : Nat) : List Nat := match up nest k with
  | none => s
  | some e => s.set e (s.getD e 0 + s.getD k 0)
def sizes (nest : Nest) : List Nat := (List.range nest.length).foldl (sizesStep nest) (List.replicate nest.length 1)
def prod (l : List Nat) : Nat := l.foldl (· * ·) 1
def mixings (nest : Nest) : Nat := prod ((List.range nest.length).map (· + 1)) / prod (sizes nest)
def rank (nest : Nest) (order : List Nat) (d : Nat) : Nat := ((order.take (order.idxOf d)).filter fun x => (inside nest d).contains x).length
def ranks (nest : Nest) (order : List Nat) : List Nat := (List.range nest.length).map (rank nest order)
def roomOf (nest : Nest) (d : Nat) (room : Option Nat) : Nat :=
  match room with
  | none => (chain nest d).getLastD 0
  | some r => ((chain nest d).filter fun x => decide (up nest x = some r)).getD 0 0
def rooms (nest : Nest) : List (Option Nat) := (List.range nest.length).map some ++ [none]
def within (nest : Nest) (room : Option Nat) : List Nat := match room with
  | none => List.range nest.length
  | some r => inside nest r
def word (nest : Nest) (order : List Nat) (room : Option Nat) : List Nat := (order.filter fun x => (within nest room).contains x).map fun x => roomOf nest x room
def wordsOf (nest : Nest) (order : List Nat) : List (List Nat) := (rooms nest).map (word nest order)
def due (nest : Nest) (room : Option Nat) : List Nat := ((List.range nest.length).filter fun k => decide (up nest k = room)).flatMap fun k => List.replicate ((sizes nest).getD k 0) k
def mixed (p : Nat → List Nat) : List Nat → List Nat → Option (List Nat)
  | [], _ => some []
  | k :: w, seen => match (p k)[seen.count k]? with
    | none => none
    | some x => (mixed p w (seen ++ [k])).map (x :: ·)
def kids (nest : Nest) (room : Option Nat) (parts : List (List Nat)) (x : Nat) : List Nat := if up nest x = room then parts.getD x [] else []
def partsF (nest : Nest) (lots : List Nat) (words : List (List Nat)) : Nat → Nat → List (List Nat) → Option (List (List Nat))
  | 0, _, parts => some parts
  | f + 1, k, parts => match mixed (kids nest (some k) parts) (words.getD k []) [] with
    | none => none
    | some inner => partsF nest lots words f (k + 1) (parts ++ [inner.take (lots.getD k 0) ++ [k] ++ inner.drop (lots.getD k 0)])
def orderOf (nest : Nest) (lots : List Nat) (words : List (List Nat)) : Option (List Nat) :=
  match partsF nest lots words nest.length 0 [] with
  | none => none
  | some parts => mixed (kids nest none parts) (words.getD nest.length []) []

/-! ### the tree -/
section
variable {nest : Nest}
theorem up_big {k : Nat} (h : nest.length ≤ k) : up nest k = none := by
  unfold up
  rw [List.getD_eq_getElem?_getD, List.getElem?_eq_none h]; rfl
theorem aroundF_more (V : Valid nest) : ∀ (f g d : Nat), nest.length ≤ f + d → nest.length ≤ g + d → aroundF nest f d = aroundF nest g d
  | 0, 0, _, _, _ => rfl
  | 0, g + 1, d, h, _ => by
    show [] = aroundF nest (g + 1) d
    unfold aroundF
    rw [up_big (by omega)]
  | f + 1, 0, d, _, h => by
    show aroundF nest (f + 1) d = []
    unfold aroundF
    rw [up_big (by omega)]
  | f + 1, g + 1, d, h1, h2 => by
    show aroundF nest (f + 1) d = aroundF nest (g + 1) d
    unfold aroundF
    cases e : up nest d with
    | none => rfl
    | some u =>
      obtain ⟨a, b⟩ := V.par d u e
      show u :: aroundF nest f u = u :: aroundF nest g u
      rw [aroundF_more V f g u (by omega) (by omega)]
theorem around_none {d : Nat} (e : up nest d = none) : around nest d = [] := by
  unfold around
  cases h : nest.length with
  | zero => rfl
  | succ f => unfold aroundF; rw [e]
theorem around_some (V : Valid nest) {d u : Nat} (e : up nest d = some u) : around nest d = u :: around nest u := by
  obtain ⟨a, b⟩ := V.par d u e
  have h : around nest d = aroundF nest (nest.length + 1) d := aroundF_more V _ _ d (by omega) (by omega)
  rw [h]
  show aroundF nest (nest.length + 1) d = u :: aroundF nest nest.length u
  conv => lhs; unfold aroundF
  rw [e]
theorem chain_cases (V : Valid nest) (d : Nat) : (up nest d = none ∧ chain nest d = [d]) ∨ ∃ u, up nest d = some u ∧ chain nest d = d :: chain nest u := by
  unfold chain
  cases e : up nest d with
  | none => exact .inl ⟨rfl, by rw [around_none e]⟩
  | some u => exact .inr ⟨u, rfl, by rw [around_some V e]⟩
/-- induction along the doors around -/
theorem tree_ind (V : Valid nest) {P : Nat → Prop} (h0 : ∀ d, up nest d = none → P d) (h1 : ∀ d u, up nest d = some u → P u → P d) : ∀ d, P d := by
  have key : ∀ f d, nest.length ≤ f + d → P d := by
    intro f
    induction f with
    | zero => intro d h; exact h0 d (up_big (by omega))
    | succ f ih =>
      intro d h
      cases e : up nest d with
      | none => exact h0 d e
      | some u =>
        obtain ⟨a, b⟩ := V.par d u e
        exact h1 d u e (ih u (by omega))
  exact fun d => key nest.length d (Nat.le_add_right _ _)
theorem chain_ge (V : Valid nest) {c : Nat} : ∀ d, c ∈ chain nest d → d ≤ c := by
  refine tree_ind V (fun d e h => ?_) (fun d u e ih h => ?_)
  · rw [chain, around_none e] at h
    exact Nat.le_of_eq (List.mem_singleton.mp h).symm
  · rw [chain, around_some V e] at h
    rcases List.mem_cons.mp h with h | h
    · omega
    · have := ih h
      have := (V.par d u e).1
      omega
theorem around_lt (V : Valid nest) {c d : Nat} (h : c ∈ around nest d) : d < c ∧ c < nest.length := by
  revert h
  refine tree_ind V (P := fun d => c ∈ around nest d → d < c ∧ c < nest.length) (fun d e h => ?_) (fun d u e ih h => ?_) d
  · rw [around_none e] at h; cases h
  · rw [around_some V e] at h
    obtain ⟨a, b⟩ := V.par d u e
    rcases List.mem_cons.mp h with h | h
    · subst h; exact ⟨a, b⟩
    · have := ih h; omega
theorem mem_inside (V : Valid nest) {x k : Nat} : x ∈ inside nest k ↔ k ∈ around nest x := by
  unfold inside
  rw [List.mem_filter, List.mem_range, List.contains_iff_mem]
  exact ⟨fun h => h.2, fun h => ⟨(around_lt V h).1, h⟩⟩
/-- the door of the room at once: there, of that room, the only one -/
theorem room_has (V : Valid nest) {room : Option Nat} : ∀ x, (room = none ∨ ∃ k, room = some k ∧ k ∈ around nest x) → roomOf nest x room ∈ chain nest x ∧ up nest (roomOf nest x room) = room := by
  refine tree_ind V (fun d e h => ?_) (fun d u e ih h => ?_)
  · rcases h with h | ⟨k, h, hk⟩
    · subst h
      unfold roomOf chain
      rw [around_none e]
      exact ⟨List.mem_singleton.mpr rfl, e⟩
    · rw [around_none e] at hk; cases hk
  · rcases h with h | ⟨k, h, hk⟩
    · subst h
      obtain ⟨a, b⟩ := ih (.inl rfl)
      have q : roomOf nest d none = roomOf nest u none := by
        unfold roomOf chain
        rw [around_some V e]
        rfl
      rw [q]
      refine ⟨?_, b⟩
      unfold chain
      rw [around_some V e]
      exact List.mem_cons_of_mem _ a
    · subst h
      by_cases hu : u = k
      · subst hu
        have q : roomOf nest d (some u) = d := by
          show ((d :: around nest d).filter fun x => decide (up nest x = some u)).getD 0 0 = d
          rw [List.filter_cons_of_pos (by simp [e])]
          rfl
        rw [q]
        exact ⟨List.mem_cons_self, e⟩
      · have hk' : k ∈ around nest u := by
          rw [around_some V e] at hk
          rcases List.mem_cons.mp hk with z | z
          · exact absurd z.symm hu
          · exact z
        obtain ⟨a, b⟩ := ih (.inr ⟨k, rfl, hk'⟩)
        have q : roomOf nest d (some k) = roomOf nest u (some k) := by
          show ((d :: around nest d).filter fun x => decide (up nest x = some k)).getD 0 0 = _
          rw [List.filter_cons_of_neg (by rw [e]; simpa using hu), around_some V e]
          rfl
        rw [q]
        refine ⟨?_, b⟩
        unfold chain
        rw [around_some V e]
        exact List.mem_cons_of_mem _ a
theorem chain_up (V : Valid nest) {c k : Nat} (hc : up nest c = some k) : ∀ x, c ∈ chain nest x → k ∈ around nest x := by
  refine tree_ind V (fun d e h => ?_) (fun d u e ih h => ?_)
  · rw [chain, around_none e] at h
    rw [List.mem_singleton.mp h, e] at hc
    cases hc
  · rw [chain, around_some V e] at h
    rw [around_some V e]
    rcases List.mem_cons.mp h with h | h
    · rw [h, e] at hc
      cases hc
      exact List.mem_cons_self
    · exact List.mem_cons_of_mem _ (ih h)
theorem chain_one (V : Valid nest) {c c' : Nat} (hu : up nest c = up nest c') : ∀ x, c ∈ chain nest x → c' ∈ chain nest x → c = c' := by
  have low : ∀ {a b : Nat}, up nest a = up nest b → ∀ u, up nest a = some u → b ∈ chain nest u → False := fun {a b} q u e h => by
    have h1 := chain_ge V u h
    rw [e] at q
    have := (V.par b u q.symm).1
    omega
  have none1 : ∀ {a b u : Nat}, up nest a = some u → up nest a = up nest b → b ∈ chain nest u → False := fun e q h => low q _ e h
  refine tree_ind V (fun d e h h' => ?_) (fun d u e ih h h' => ?_)
  · rw [chain, around_none e] at h h'
    rw [List.mem_singleton.mp h, List.mem_singleton.mp h']
  · rw [chain, around_some V e] at h h'
    rcases List.mem_cons.mp h with h1 | h1
    · rcases List.mem_cons.mp h' with h2 | h2
      · rw [h1, h2]
      · exact (none1 (h1 ▸ e) hu h2).elim
    · rcases List.mem_cons.mp h' with h2 | h2
      · exact (none1 (h2 ▸ e) hu.symm h1).elim
      · exact ih h1 h2
theorem mem_within (V : Valid nest) {room : Option Nat} {x : Nat} (hx : x < nest.length) : x ∈ within nest room ↔ (room = none ∨ ∃ k, room = some k ∧ k ∈ around nest x) := by
  cases room with
  | none => exact ⟨fun _ => .inl rfl, fun _ => List.mem_range.mpr hx⟩
  | some k =>
    show x ∈ inside nest k ↔ _
    rw [mem_inside V]
    exact ⟨fun h => .inr ⟨k, rfl, h⟩, fun h => by
      rcases h with h | ⟨k', h, hk⟩
      · cases h
      · cases h; exact hk⟩
/-- whose door of the room at once is c: what lies in c's room, and c -/
theorem room_iff (V : Valid nest) {c x : Nat} (hx : x < nest.length) : c ∈ chain nest x ↔ (x ∈ within nest (up nest c) ∧ roomOf nest x (up nest c) = c) := by
  constructor
  · intro h
    have hw : up nest c = none ∨ ∃ k, up nest c = some k ∧ k ∈ around nest x := by
      cases e : up nest c with
      | none => exact .inl rfl
      | some k => exact .inr ⟨k, rfl, chain_up V e x h⟩
    obtain ⟨a, b⟩ := room_has V x hw
    exact ⟨(mem_within V hx).mpr hw, chain_one V b x a h⟩
  · rintro ⟨h1, h2⟩
    have a := (room_has V x ((mem_within V hx).mp h1)).1
    rw [h2] at a
    exact a
end

/-! ### mixed -/
theorem mixed_map {p : Nat → List Nat} {c : Nat → Nat} (full : List Nat) (hp : ∀ x ∈ full, p (c x) = full.filter fun y => decide (c y = c x)) :
    ∀ (post pre : List Nat), full = pre ++ post → mixed p (post.map c) (pre.map c) = some post
  | [], _, _ => rfl
  | x :: post, pre, h => by
    have hx : x ∈ full := by rw [h]; simp
    have hget : (p (c x))[(pre.map c).count (c x)]? = some x := by
      rw [hp x hx, h, List.filter_append, List.filter_cons_of_pos (by simp)]
      have hl : (pre.map c).count (c x) = (pre.filter fun y => decide (c y = c x)).length := by
        rw [List.count_eq_length_filter, List.filter_map, List.length_map]
        congr 1
      rw [hl, List.getElem?_append_right (Nat.le_refl _), Nat.sub_self]
      rfl
    show (match (p (c x))[(pre.map c).count (c x)]? with
      | none => none
      | some x' => (mixed p (post.map c) (pre.map c ++ [c x])).map (x' :: ·)) = some (x :: post)
    rw [hget]
    have ih := mixed_map full hp post (pre ++ [x]) (by rw [h]; simp)
    rw [List.map_append] at ih
    show (mixed p (post.map c) (pre.map c ++ [c x])).map (x :: ·) = some (x :: post)
    rw [show pre.map c ++ [c x] = pre.map c ++ [x].map c from rfl, ih]
    rfl

/-! ### from the code back to the order -/
section
variable {nest : Nest} {order : List Nat}
def part (nest : Nest) (order : List Nat) (k : Nat) : List Nat := order.filter fun x => decide (k ∈ chain nest x)
theorem kids_mixed (V : Valid nest) (hlt : ∀ x ∈ order, x < nest.length) (room : Option Nat) {parts : List (List Nat)} (hp : ∀ c, up nest c = room → (∃ x ∈ order, c ∈ chain nest x) → parts.getD c [] = part nest order c) :
    mixed (kids nest room parts) (word nest order room) [] = some (order.filter fun x => (within nest room).contains x) := by
  unfold word
  refine mixed_map (p := kids nest room parts) (c := fun x => roomOf nest x room) (order.filter fun x => (within nest room).contains x) (fun x hx => ?_) _ [] rfl
  obtain ⟨hx1, hx2⟩ := List.mem_filter.mp hx
  rw [List.contains_iff_mem] at hx2
  have hxl := hlt x hx1
  obtain ⟨a, b⟩ := room_has V x ((mem_within V hxl).mp hx2)
  unfold kids
  rw [if_pos b, hp _ b ⟨x, hx1, a⟩, List.filter_filter]
  unfold part
  refine List.filter_congr fun y hy => ?_
  have hyl := hlt y hy
  have q := room_iff V (c := roomOf nest x room) hyl
  rw [b] at q
  by_cases h : roomOf nest x room ∈ chain nest y
  · obtain ⟨q1, q2⟩ := q.mp h
    simp only [h, q2, decide_true, Bool.true_and]
    exact (List.contains_iff_mem.mpr q1).symm
  · simp only [h, decide_false]
    by_cases h1 : y ∈ within nest room
    · by_cases h2 : roomOf nest y room = roomOf nest x room
      · exact absurd (q.mpr ⟨h1, h2⟩) h
      · simp only [h2, decide_false, Bool.false_and]
    · have h3 : (within nest room).contains y = false := by
        cases h4 : (within nest room).contains y with
        | false => rfl
        | true => exact absurd (List.contains_iff_mem.mp h4) h1
      rw [h3, Bool.and_false]
theorem part_insert (V : Valid nest) (hn : order.Nodup) {k : Nat} (hk : k ∈ order) :
    (order.filter fun x => (within nest (some k)).contains x).take (rank nest order k) ++ [k] ++ (order.filter fun x => (within nest (some k)).contains x).drop (rank nest order k) = part nest order k := by
  obtain ⟨pre, post, e, hpre⟩ : ∃ pre post, order = pre ++ k :: post ∧ k ∉ pre := by
    obtain ⟨pre, post, e⟩ := List.append_of_mem hk
    refine ⟨pre, post, e, fun h => ?_⟩
    rw [e] at hn
    exact (List.nodup_append.mp hn).2.2 k h k List.mem_cons_self rfl
  have hpost : k ∉ post := by
    rw [e] at hn
    exact (List.nodup_cons.mp (List.nodup_append.mp hn).2.1).1
  have hself : (inside nest k).contains k = false := by
    cases h : (inside nest k).contains k with
    | false => rfl
    | true =>
      have := (around_lt V ((mem_inside V).mp (List.contains_iff_mem.mp h))).1
      omega
  have hix : order.idxOf k = pre.length := by
    rw [e, List.idxOf_append, if_neg hpre, List.idxOf_cons_self, Nat.zero_add]
  have hr : rank nest order k = (pre.filter fun x => (inside nest k).contains x).length := by
    unfold rank
    rw [hix, e, List.take_left']
    rfl
  have hfull : (order.filter fun x => (within nest (some k)).contains x) = (pre.filter fun x => (inside nest k).contains x) ++ (post.filter fun x => (inside nest k).contains x) := by
    show (order.filter fun x => (inside nest k).contains x) = _
    rw [e, List.filter_append, List.filter_cons_of_neg (by rw [hself]; simp)]
  rw [hfull, hr, List.take_left' rfl, List.drop_left' rfl]
  unfold part
  rw [e, List.filter_append, List.filter_cons_of_pos (by simp [chain])]
  have same : ∀ l : List Nat, k ∉ l → (l.filter fun x => decide (k ∈ chain nest x)) = l.filter fun x => (inside nest k).contains x := fun l hl =>
    List.filter_congr fun x hx => by
      have hne : k ≠ x := fun z => hl (z ▸ hx)
      have : (k ∈ chain nest x) ↔ x ∈ inside nest k := by
        rw [mem_inside V]
        unfold chain
        rw [List.mem_cons]
        exact ⟨fun h => h.resolve_left hne, .inr⟩
      rw [decide_eq_decide.mpr this]
      cases h : (inside nest k).contains x with
      | true => exact decide_eq_true (List.contains_iff_mem.mp h)
      | false => exact decide_eq_false fun q => by rw [List.contains_iff_mem.mpr q] at h; cases h
  rw [same pre hpre, same post hpost]
  simp
theorem parts_ok (V : Valid nest) (hn : order.Nodup) (hlt : ∀ x ∈ order, x < nest.length) (hall : ∀ x, x < nest.length → x ∈ order) :
    ∀ f k, f + k = nest.length → partsF nest (ranks nest order) (wordsOf nest order) f k ((List.range k).map (part nest order)) = some ((List.range nest.length).map (part nest order))
  | 0, k, h => by
    have e : k = nest.length := by omega
    subst e
    rfl
  | f + 1, k, h => by
    have hk : k < nest.length := by omega
    have hw : (wordsOf nest order).getD k [] = word nest order (some k) := by
      unfold wordsOf rooms
      rw [List.getD_eq_getElem?_getD, List.getElem?_map, List.getElem?_append_left (by simpa using hk), List.getElem?_map, List.getElem?_range hk]
      rfl
    have hr : (ranks nest order).getD k 0 = rank nest order k := by
      unfold ranks
      rw [List.getD_eq_getElem?_getD, List.getElem?_map, List.getElem?_range hk]
      rfl
    have hm := kids_mixed V hlt (some k) (parts := (List.range k).map (part nest order)) fun c hc _ => by
      have := (V.par c k hc).1
      rw [List.getD_eq_getElem?_getD, List.getElem?_map, List.getElem?_range this]
      rfl
    unfold partsF
    rw [hw, hm]
    show partsF nest (ranks nest order) (wordsOf nest order) f (k + 1) _ = _
    rw [hr, part_insert V hn (hall k hk)]
    have e : (List.range k).map (part nest order) ++ [part nest order k] = (List.range (k + 1)).map (part nest order) := by
      rw [List.range_succ, List.map_append]
      rfl
    rw [e]
    exact parts_ok V hn hlt hall f (k + 1) (by omega)
theorem orderOf_code (V : Valid nest) (hn : order.Nodup) (hlt : ∀ x ∈ order, x < nest.length) (hall : ∀ x, x < nest.length → x ∈ order) :
    orderOf nest (ranks nest order) (wordsOf nest order) = some order := by
  unfold orderOf
  rw [show ([] : List (List Nat)) = (List.range 0).map (part nest order) from rfl, parts_ok V hn hlt hall nest.length 0 (Nat.add_zero _)]
  have hw : (wordsOf nest order).getD nest.length [] = word nest order none := by
    unfold wordsOf rooms
    rw [List.getD_eq_getElem?_getD, List.getElem?_map, List.getElem?_append_right (by simp)]
    simp
  show mixed (kids nest none ((List.range nest.length).map (part nest order))) ((wordsOf nest order).getD nest.length []) [] = some order
  rw [hw, kids_mixed V hlt none fun c hc ⟨x, hx, hcx⟩ => ?_]
  · congr 1
    rw [List.filter_eq_self]
    intro x hx
    exact List.contains_iff_mem.mpr (List.mem_range.mpr (hlt x hx))
  · have hcl : c < nest.length := by
      rcases List.mem_cons.mp hcx with z | z
      · rw [z]; exact hlt x hx
      · exact (around_lt V z).2
    rw [List.getD_eq_getElem?_getD, List.getElem?_map, List.getElem?_range hcl]
    rfl
end
end CD
set_option linter.all false
namespace CD
/-! ### counting -/
theorem nodup_len {α : Type} [BEq α] [LawfulBEq α] : ∀ {l m : List α}, l.Nodup → (∀ x ∈ l, x ∈ m) → l.length ≤ m.length
  | [], _, _, _ => Nat.zero_le _
  | x :: l, m, hn, hs => by
    obtain ⟨h1, h2⟩ := List.nodup_cons.mp hn
    have hx : x ∈ m := hs x List.mem_cons_self
    have ih := nodup_len (l := l) (m := m.erase x) h2 fun y hy => (List.mem_erase_of_ne (fun e => h1 (by rw [← e]; exact hy))).mpr (hs y (List.mem_cons_of_mem _ hy))
    rw [List.length_erase_of_mem hx] at ih
    have : 0 < m.length := List.length_pos_of_mem hx
    rw [List.length_cons]
    omega
theorem nodup_onto {α : Type} [BEq α] [LawfulBEq α] {l m : List α} (hn : l.Nodup) (hs : ∀ x ∈ l, x ∈ m) (hl : m.length ≤ l.length) : ∀ y ∈ m, y ∈ l := by
  intro y hy
  rcases Classical.em (y ∈ l) with h | h
  · exact h
  · have := nodup_len (l := y :: l) (m := m) (List.nodup_cons.mpr ⟨h, hn⟩) fun z hz => by
      rcases List.mem_cons.mp hz with e | e
      · rw [e]; exact hy
      · exact hs z e
    rw [List.length_cons] at this
    omega
def pairs {α β : Type} (l : List α) (m : List β) : List (α × β) := l.flatMap fun x => m.map fun y => (x, y)
theorem mem_pairs {α β : Type} {l : List α} {m : List β} {p : α × β} : p ∈ pairs l m ↔ p.1 ∈ l ∧ p.2 ∈ m := by
  unfold pairs
  rw [List.mem_flatMap]
  constructor
  · rintro ⟨x, hx, h⟩
    obtain ⟨y, hy, rfl⟩ := List.mem_map.mp h
    exact ⟨hx, hy⟩
  · rintro ⟨h1, h2⟩
    exact ⟨p.1, h1, List.mem_map.mpr ⟨p.2, h2, rfl⟩⟩
theorem pairs_len {α β : Type} (l : List α) (m : List β) : (pairs l m).length = l.length * m.length := by
  unfold pairs
  induction l with
  | nil => simp
  | cons x l ih => rw [List.flatMap_cons, List.length_append, ih, List.length_map, List.length_cons, Nat.succ_mul, Nat.add_comm]
/-! ### all choices, all arrangements -/
def pick {α : Type} : List (List α) → List (List α)
  | [] => [[]]
  | l :: ls => l.flatMap fun x => (pick ls).map (x :: ·)
theorem mem_pick {ι α : Type} {g : ι → α} {h : ι → List α} : ∀ {is : List ι}, (∀ i ∈ is, g i ∈ h i) → is.map g ∈ pick (is.map h)
  | [], _ => List.mem_singleton.mpr rfl
  | i :: is, H => List.mem_flatMap.mpr ⟨g i, H i List.mem_cons_self, List.mem_map.mpr ⟨is.map g, mem_pick fun j hj => H j (List.mem_cons_of_mem _ hj), rfl⟩⟩
def arr : Nat → List Nat → List (List Nat)
  | 0, _ => [[]]
  | f + 1, l => l.eraseDups.flatMap fun x => (arr f (l.erase x)).map (x :: ·)
theorem mem_arr : ∀ {w l : List Nat}, w.Perm l → w ∈ arr l.length l
  | [], l, h => by
    rw [List.nil_perm.mp h]
    exact List.mem_singleton.mpr rfl
  | x :: w, l, h => by
    obtain ⟨h1, h2⟩ := List.cons_perm_iff_perm_erase.mp h
    have hl : l.length = (l.erase x).length + 1 := by
      have := h.length_eq
      have := h2.length_eq
      rw [List.length_cons] at *
      omega
    rw [hl]
    exact List.mem_flatMap.mpr ⟨x, List.mem_eraseDups.mpr h1, List.mem_map.mpr ⟨w, mem_arr h2, rfl⟩⟩
/-! ### all orders, all nests, the finite facts -/
def ordersStep (n : Nat) (found : List (List Nat)) : List (List Nat) := found.flatMap fun o => ((List.range n).filter fun x => !o.contains x).map fun x => o ++ [x]
def ordersF (n : Nat) : Nat → List (List Nat)
  | 0 => [[]]
  | k + 1 => ordersStep n (ordersF n k)
def orders (n : Nat) : List (List Nat) := ordersF n n
def fact : Nat → Nat
  | 0 => 1
  | n + 1 => (n + 1) * fact n
def tails (n : Nat) : Nat → List Nest
  | 0 => [[]]
  | k + 1 => (tails n k).flatMap fun r => (none :: ((List.range k).map fun j => some (n - 1 - j))).map (· :: r)
def nests (n : Nat) : List Nest := tails n n
/-- the ranks and the words that may be -/
def rankLists (nest : Nest) : List (List Nat) := pick ((List.range nest.length).map fun k => List.range ((sizes nest).getD k 0))
def wordLists (nest : Nest) : List (List (List Nat)) := pick ((rooms nest).map fun room => arr (due nest room).length (due nest room))
/-- the law's own way to the doors inside -/
def closeStep (nest : Nest) (s : List Nat) : List Nat := s ++ (List.range nest.length).filter fun k => (match up nest k with | none => false | some e => s.contains e) && !s.contains k
def closeF (nest : Nest) : Nat → List Nat → List Nat
  | 0, s => s
  | f + 1, s => closeF nest f (closeStep nest s)
def closed (nest : Nest) (d : Nat) : List Nat := (closeF nest nest.length [d]).filter fun k => !(k == d)
def nestOk (nest : Nest) : Bool :=
  ((sizes nest).length == nest.length) && ((List.range nest.length).all fun k => (sizes nest).getD k 0 == (inside nest k).length + 1) && (wordLists nest).length == mixings nest && (rankLists nest).length * (wordLists nest).length == fact nest.length &&
  (decide (0 < prod (sizes nest)) && decide (prod (sizes nest) < 1000) && ((sizes nest).all fun x => decide (x < 1000)) && decide (mixings nest < 1000)) &&
  (List.range nest.length).all fun k => (closed nest k).isPerm (inside nest k)
def ordersOk (n : Nat) : Bool := (orders n).length == fact n && decide (orders n).Nodup && (orders n).all fun o => decide o.Nodup && o.length == n && (o.all fun x => decide (x < n)) && (List.range n).all fun x => o.contains x
theorem orders_ok : (List.range 6).all ordersOk = true := by decide +kernel
theorem nests_ok : (List.range 6).all (fun n => (nests n).all nestOk) = true := by decide +kernel

/-! ### a nest that is ok -/
section
variable {nest : Nest} {order : List Nat}
structure IsOrder (nest : Nest) (order : List Nat) : Prop where
  nd : order.Nodup
  lt : ∀ x ∈ order, x < nest.length
  all : ∀ x, x < nest.length → x ∈ order
theorem IsOrder.len (O : IsOrder nest order) : order.length = nest.length := by
  have h1 := nodup_len O.nd fun x hx => List.mem_range.mpr (O.lt x hx)
  have h2 := nodup_len (l := List.range nest.length) List.nodup_range fun x hx => O.all x (List.mem_range.mp hx)
  rw [List.length_range] at h1 h2
  omega
theorem nodup_inside (nest : Nest) (k : Nat) : (inside nest k).Nodup := List.nodup_range.filter _
theorem same_len {l m : List Nat} (hl : l.Nodup) (hm : m.Nodup) (h : ∀ x, x ∈ l ↔ x ∈ m) : l.length = m.length :=
  Nat.le_antisymm (nodup_len hl fun x hx => (h x).mp hx) (nodup_len hm fun x hx => (h x).mpr hx)
def SizesOk (nest : Nest) : Prop := (sizes nest).length = nest.length ∧ ∀ k, k < nest.length → (sizes nest).getD k 0 = (inside nest k).length + 1
theorem rank_lt (Z : SizesOk nest) (O : IsOrder nest order) {k : Nat} (hk : k < nest.length) : rank nest order k < (sizes nest).getD k 0 := by
  rw [Z.2 k hk]
  have h := nodup_len (l := (order.take (order.idxOf k)).filter fun x => (inside nest k).contains x) (m := inside nest k) ((O.nd.sublist (List.take_sublist _ _)).filter _) fun x hx =>
    List.contains_iff_mem.mp (List.mem_filter.mp hx).2
  unfold rank
  omega
/-- the word of a room has each door at once as often as its size -/
theorem word_perm (V : Valid nest) (Z : SizesOk nest) (O : IsOrder nest order) (room : Option Nat) : (word nest order room).Perm (due nest room) := by
  rw [List.perm_iff_count]
  intro c
  have hd : (due nest room).count c = if c < nest.length ∧ up nest c = room then (sizes nest).getD c 0 else 0 := by
    unfold due
    have key : ∀ l : List Nat, l.Nodup → (l.flatMap fun k => List.replicate ((sizes nest).getD k 0) k).count c = if c ∈ l then (sizes nest).getD c 0 else 0 := by
      intro l
      induction l with
      | nil => intro _; rfl
      | cons a l ih =>
        intro hn
        obtain ⟨h1, h2⟩ := List.nodup_cons.mp hn
        rw [List.flatMap_cons, List.count_append, ih h2, List.count_replicate]
        by_cases e : a = c
        · subst e
          simp [h1]
        · have e' : ¬ c = a := fun z => e z.symm
          simp [e, e']
    rw [key _ (List.nodup_range.filter _)]
    simp [List.mem_filter]
  rw [hd]
  unfold word
  rw [List.count_eq_length_filter, List.filter_map, List.length_map, List.filter_filter]
  by_cases h : c < nest.length ∧ up nest c = room
  · rw [if_pos h, Z.2 c h.1]
    obtain ⟨hc, hu⟩ := h
    have e : (c :: inside nest c).length = (inside nest c).length + 1 := rfl
    rw [← e]
    refine same_len (O.nd.filter _) (List.nodup_cons.mpr ⟨fun z => ?_, nodup_inside nest c⟩) fun x => ?_
    · have := (around_lt V ((mem_inside V).mp z)).1
      omega
    · rw [List.mem_filter]
      constructor
      · rintro ⟨hx, h⟩
        rw [Bool.and_eq_true] at h
        have hr : roomOf nest x room = c := by simpa using h.1
        have hw := List.contains_iff_mem.mp h.2
        have := (room_iff V (c := c) (O.lt x hx)).mpr (by rw [hu]; exact ⟨hw, hr⟩)
        rcases List.mem_cons.mp this with z | z
        · rw [z]; exact List.mem_cons_self
        · exact List.mem_cons_of_mem _ ((mem_inside V).mpr z)
      · intro hx
        have hcx : c ∈ chain nest x := by
          rcases List.mem_cons.mp hx with z | z
          · rw [z]; exact List.mem_cons_self
          · exact List.mem_cons_of_mem _ ((mem_inside V).mp z)
        have hxl : x < nest.length := by
          rcases List.mem_cons.mp hx with z | z
          · rw [z]; exact hc
          · have := around_lt V ((mem_inside V).mp z); omega
        obtain ⟨h1, h2⟩ := (room_iff V (c := c) hxl).mp hcx
        rw [hu] at h1 h2
        refine ⟨O.all x hxl, ?_⟩
        rw [Bool.and_eq_true]
        exact ⟨by simpa using h2, List.contains_iff_mem.mpr h1⟩
  · rw [if_neg h, List.length_eq_zero_iff, List.filter_eq_nil_iff]
    intro x hx hh
    rw [Bool.and_eq_true] at hh
    have hr : roomOf nest x room = c := by simpa using hh.1
    have hw := List.contains_iff_mem.mp hh.2
    obtain ⟨a, b⟩ := room_has V x ((mem_within V (O.lt x hx)).mp hw)
    rw [hr] at a b
    refine h ⟨?_, b⟩
    rcases List.mem_cons.mp a with z | z
    · rw [z]; exact O.lt x hx
    · exact (around_lt V z).2
theorem due_sorted (nest : Nest) (room : Option Nat) : (due nest room).Pairwise (· ≤ ·) := by
  unfold due
  have key : ∀ l : List Nat, l.Pairwise (· < ·) → (l.flatMap fun k => List.replicate ((sizes nest).getD k 0) k).Pairwise (· ≤ ·) := by
    intro l
    induction l with
    | nil => intro _; exact List.Pairwise.nil
    | cons a l ih =>
      intro h
      obtain ⟨h1, h2⟩ := List.pairwise_cons.mp h
      rw [List.flatMap_cons, List.pairwise_append]
      refine ⟨List.pairwise_replicate.mpr (.inr (Nat.le_refl _)), ih h2, fun x hx y hy => ?_⟩
      rw [(List.mem_replicate.mp hx).2]
      obtain ⟨b, hb, hy⟩ := List.mem_flatMap.mp hy
      rw [(List.mem_replicate.mp hy).2]
      exact Nat.le_of_lt (h1 b hb)
  exact key _ (List.pairwise_lt_range.filter _)
/-! ### the codes -/
def code (nest : Nest) (o : List Nat) : List Nat × List (List Nat) := (ranks nest o, wordsOf nest o)
structure Good (nest : Nest) (os : List (List Nat)) : Prop where
  v : Valid nest
  z : SizesOk nest
  wl : (wordLists nest).length = mixings nest
  rl : (rankLists nest).length * (wordLists nest).length = os.length
  on : os.Nodup
  oo : ∀ o ∈ os, IsOrder nest o
theorem code_inj (G : Good nest os) {o o' : List Nat} (h : o ∈ os) (h' : o' ∈ os) (e : code nest o = code nest o') : o = o' := by
  have O := G.oo o h
  have O' := G.oo o' h'
  have a : orderOf nest (code nest o).1 (code nest o).2 = some o := orderOf_code G.v O.nd O.lt O.all
  have b : orderOf nest (code nest o').1 (code nest o').2 = some o' := orderOf_code G.v O'.nd O'.lt O'.all
  rw [e] at a
  exact Option.some.inj (a.symm.trans b)
theorem rank_in (G : Good nest os) {o : List Nat} (h : o ∈ os) : ranks nest o ∈ rankLists nest :=
  mem_pick fun k hk => List.mem_range.mpr (rank_lt G.z (G.oo o h) (List.mem_range.mp hk))
theorem words_in (G : Good nest os) {o : List Nat} (h : o ∈ os) : wordsOf nest o ∈ wordLists nest :=
  mem_pick fun room _ => mem_arr (word_perm G.v G.z (G.oo o h) room)
theorem nodup_map_on {α β : Type} {f : α → β} : ∀ {l : List α}, l.Nodup → (∀ x ∈ l, ∀ y ∈ l, f x = f y → x = y) → (l.map f).Nodup
  | [], _, _ => List.nodup_nil
  | a :: l, h, H => by
    obtain ⟨h1, h2⟩ := List.nodup_cons.mp h
    refine List.nodup_cons.mpr ⟨fun m => ?_, nodup_map_on h2 fun x hx y hy => H x (List.mem_cons_of_mem _ hx) y (List.mem_cons_of_mem _ hy)⟩
    obtain ⟨b, hb, e⟩ := List.mem_map.mp m
    have := H b (List.mem_cons_of_mem _ hb) a List.mem_cons_self e
    rw [this] at hb
    exact h1 hb
/-- THE PLAIN LAW: the different ranks and the different words, each with each -/
theorem plain {os : List (List Nat)} (G : Good nest os) (h1 : 0 < os.length) {lots : List (List Nat)} {words : List (List (List Nat))} (nl : lots.Nodup) (nw : words.Nodup)
    (ml : ∀ r, r ∈ lots ↔ ∃ o ∈ os, ranks nest o = r) (mw : ∀ w, w ∈ words ↔ ∃ o ∈ os, wordsOf nest o = w) :
    words.length = mixings nest ∧ lots.length * words.length = os.length ∧ ∀ r ∈ lots, ∀ w ∈ words, ∃ o ∈ os, code nest o = (r, w) := by
  have nc : (os.map (code nest)).Nodup := nodup_map_on G.on fun x hx y hy e => code_inj G hx hy e
  have sc : ∀ p ∈ os.map (code nest), p ∈ pairs lots words := fun p hp => by
    obtain ⟨o, ho, rfl⟩ := List.mem_map.mp hp
    exact mem_pairs.mpr ⟨(ml _).mpr ⟨o, ho, rfl⟩, (mw _).mpr ⟨o, ho, rfl⟩⟩
  have a := nodup_len nc sc
  rw [List.length_map, pairs_len] at a
  have b : lots.length ≤ (rankLists nest).length := nodup_len nl fun r hr => by
    obtain ⟨o, ho, rfl⟩ := (ml r).mp hr
    exact rank_in G ho
  have c : words.length ≤ (wordLists nest).length := nodup_len nw fun w hw => by
    obtain ⟨o, ho, rfl⟩ := (mw w).mp hw
    exact words_in G ho
  have r := G.rl
  have d : lots.length * words.length ≤ (rankLists nest).length * (wordLists nest).length := Nat.mul_le_mul b c
  have e : lots.length * words.length = os.length := by omega
  have f : words.length = (wordLists nest).length := by
    refine Nat.le_antisymm c (Nat.le_of_not_lt fun hlt => ?_)
    have p0 : 0 < lots.length := Nat.pos_of_ne_zero fun z => by rw [z, Nat.zero_mul] at e; omega
    have : lots.length * words.length < lots.length * (wordLists nest).length := Nat.mul_lt_mul_of_pos_left hlt p0
    have : lots.length * (wordLists nest).length ≤ (rankLists nest).length * (wordLists nest).length := Nat.mul_le_mul_right _ b
    omega
  refine ⟨f.trans G.wl, e, fun r hr w hw => ?_⟩
  have on := nodup_onto nc sc (by rw [pairs_len, List.length_map]; omega) (r, w) (mem_pairs.mpr ⟨hr, hw⟩)
  obtain ⟨o, ho, eo⟩ := List.mem_map.mp on
  exact ⟨o, ho, eo⟩
end

/-! ### each nest of few doors is good -/
theorem mem_tails {nest : Nest} (V : Valid nest) : ∀ k, k ≤ nest.length → nest.drop (nest.length - k) ∈ tails nest.length k
  | 0, _ => by
    rw [Nat.sub_zero, List.drop_length]
    exact List.mem_singleton.mpr rfl
  | k + 1, h => by
    have ih := mem_tails V k (by omega)
    have hi : nest.length - (k + 1) < nest.length := by omega
    have e : nest.drop (nest.length - (k + 1)) = nest[nest.length - (k + 1)] :: nest.drop (nest.length - k) := by
      rw [List.drop_eq_getElem_cons hi]
      congr 2
      omega
    rw [e]
    refine List.mem_flatMap.mpr ⟨_, ih, List.mem_map.mpr ⟨_, ?_, rfl⟩⟩
    cases q : nest[nest.length - (k + 1)] with
    | none => exact List.mem_cons_self
    | some u =>
      have hu : up nest (nest.length - (k + 1)) = some u := by
        unfold up
        rw [List.getD_eq_getElem?_getD, List.getElem?_eq_getElem hi, q]
        rfl
      obtain ⟨a, b⟩ := V.par _ _ hu
      refine List.mem_cons_of_mem _ (List.mem_map.mpr ⟨nest.length - 1 - u, List.mem_range.mpr (by omega), ?_⟩)
      congr 1
      omega
theorem mem_nests {nest : Nest} (V : Valid nest) : nest ∈ nests nest.length := by
  have h := mem_tails V nest.length (Nat.le_refl _)
  rw [Nat.sub_self, List.drop_zero] at h
  exact h
theorem orders_isOrder {n : Nat} (hn : n ≤ 5) {nest : Nest} (e : nest.length = n) : (orders n).length = fact n ∧ (orders n).Nodup ∧ ∀ o ∈ orders n, IsOrder nest o := by
  have h := List.all_eq_true.mp orders_ok n (List.mem_range.mpr (by omega))
  unfold ordersOk at h
  rw [Bool.and_eq_true, Bool.and_eq_true] at h
  obtain ⟨⟨h1, h2⟩, h3⟩ := h
  refine ⟨by simpa using h1, of_decide_eq_true h2, fun o ho => ?_⟩
  have q := List.all_eq_true.mp h3 o ho
  rw [Bool.and_eq_true, Bool.and_eq_true, Bool.and_eq_true] at q
  obtain ⟨⟨⟨q1, _⟩, q3⟩, q4⟩ := q
  refine ⟨of_decide_eq_true q1, fun x hx => ?_, fun x hx => ?_⟩
  · rw [e]
    exact of_decide_eq_true (List.all_eq_true.mp q3 x hx)
  · rw [e] at hx
    exact List.contains_iff_mem.mp (List.all_eq_true.mp q4 x (List.mem_range.mpr hx))
theorem nest_ok {nest : Nest} (V : Valid nest) (h5 : nest.length ≤ 5) : nestOk nest = true :=
  List.all_eq_true.mp (List.all_eq_true.mp nests_ok nest.length (List.mem_range.mpr (by omega))) nest (mem_nests V)
theorem good_of {nest : Nest} (V : Valid nest) (h5 : nest.length ≤ 5) : Good nest (orders nest.length) := by
  have h := nest_ok V h5
  unfold nestOk at h
  rw [Bool.and_eq_true, Bool.and_eq_true, Bool.and_eq_true, Bool.and_eq_true, Bool.and_eq_true] at h
  obtain ⟨⟨⟨⟨⟨h1, h2⟩, h3⟩, h4⟩, _⟩, _⟩ := h
  obtain ⟨o1, o2, o3⟩ := orders_isOrder h5 (nest := nest) rfl
  refine ⟨V, ⟨by simpa using h1, fun k hk => ?_⟩, by simpa using h3, ?_, o2, o3⟩
  · simpa using List.all_eq_true.mp h2 k (List.mem_range.mpr hk)
  · rw [o1]
    simpa using h4
/-- the sizes are small -/
theorem small_of {nest : Nest} (V : Valid nest) (h5 : nest.length ≤ 5) : 0 < prod (sizes nest) ∧ prod (sizes nest) < 1000 ∧ (∀ x ∈ sizes nest, x < 1000) ∧ mixings nest < 1000 := by
  have h := nest_ok V h5
  unfold nestOk at h
  rw [Bool.and_eq_true, Bool.and_eq_true, Bool.and_eq_true, Bool.and_eq_true, Bool.and_eq_true] at h
  obtain ⟨⟨_, h⟩, _⟩ := h
  rw [Bool.and_eq_true, Bool.and_eq_true, Bool.and_eq_true] at h
  obtain ⟨⟨⟨h1, h2⟩, h3⟩, h4⟩ := h
  exact ⟨of_decide_eq_true h1, of_decide_eq_true h2, fun x hx => of_decide_eq_true (List.all_eq_true.mp h3 x hx), of_decide_eq_true h4⟩
theorem closed_perm {nest : Nest} (V : Valid nest) (h5 : nest.length ≤ 5) {k : Nat} (hk : k < nest.length) : (closed nest k).Perm (inside nest k) := by
  have h := nest_ok V h5
  unfold nestOk at h
  rw [Bool.and_eq_true] at h
  exact List.isPerm_iff.mp (List.all_eq_true.mp h.2 k (List.mem_range.mpr hk))
theorem inside_sorted (nest : Nest) (k : Nat) : (inside nest k).Pairwise (· < ·) := List.pairwise_lt_range.filter _
/-- the ranks as the law counts them -/
def lawRank (ins : List Nat) (order : List Nat) (k : Nat) : Nat := (ins.filter fun x => (order.take (order.idxOf k)).contains x).length
theorem lawRank_eq {nest : Nest} {order : List Nat} (O : IsOrder nest order) (k : Nat) : lawRank (inside nest k) order k = rank nest order k := by
  unfold lawRank rank
  refine same_len ((nodup_inside nest k).filter _) ((O.nd.sublist (List.take_sublist _ _)).filter _) fun x => ?_
  rw [List.mem_filter, List.mem_filter, List.contains_iff_mem, List.contains_iff_mem]
  exact And.comm
end CD
set_option Elab.async false
set_option linter.all false
set_option maxRecDepth 100000
set_option maxHeartbeats 4000000
/-! data: what a value stands for, whatever is laid behind it -/
set_option Elab.async false
set_option linter.all false
set_option maxRecDepth 100000
set_option maxHeartbeats 4000000
/-! tuples that are known to the object (no dict of their own: their methods can be called) -/
namespace CD
open PySem PySem.Spec L2
open PyProof.Rows hiding St
abbrev tupOb (us : List Value) : Obj := { cls := .type "tuple", data := .seq us.toArray }
section
variable {X : Cx}
theorem laidF {pins : List (Addr × Obj)} {σ : L2.St} {H : Hp} {s : Shared} {xs : List V} {us : List Value} {t' : Nat} (I : Inv X pins σ H s) (rv : Vals xs us) (z : xs.length ≤ sizeLine) :
    Inv X pins σ (upd H s.heap.objs.size (.frz (tupOb us) (.tup xs))) { s with heap := s.heap.push (tupOb us), toks := t' } :=
  I.laid (fun b u e => Heap.get?_push_of_some _ e) (Nat.le_refl _) ⟨Heap.get?_push_size _ rfl, z, us, rv, ⟨_, Heap.get?_push_size _ rfl, rfl, _, rfl⟩⟩
/-- what a new tuple at p is -/
def NewT (H : Hp) (xs : List V) (Q : VK) : Prop := ∀ p o, H p = none → o.dict = none → Q (.ref p) (upd H p (.frz o (.tup xs)))
theorem NewT.go {pins : List (Addr × Obj)} {σ : L2.St} {H : Hp} {s : Shared} {xs : List V} {us : List Value} {t' : Nat} {Q : VK} (q : NewT H xs Q) (I : Inv X pins σ H s) (rv : Vals xs us) (z : xs.length ≤ sizeLine) :
    EP X pins σ Q (.ref s.heap.objs.size) { s with heap := s.heap.push (tupOb us), toks := t' } := ⟨.ref s.heap.objs.size, _, laidF I rv z, rfl, q _ _ (I.hok.fresh (Nat.le_refl _)) rfl⟩
/-- (a, b, ..) -/
def tTupF (t : TA) : TE := fun σ H Q => t σ H fun xs H1 => xs.length ≤ sizeLine ∧ NewT H1 xs Q
theorem pe_tupF {es : List Expr} {t : TA} {x1 : Nat} {pos : Pos} (h : PA X es t) : PE X (.Tuple es x1 pos) (tTupF t) :=
  ⟨fun pins s σ H Q I hq => wpAny_Tuple_spliced (thn (h.run pos pins s σ H _ I hq) fun us s1 ⟨xs, H1, I1, r, z, q⟩ => ⟨by rw [← r.length]; exact z, q.go (t' := s1.toks) I1 r z⟩)⟩
/-- tuple(xs) of a list -/
theorem call_tupF : CallR X (.type "tuple") (fun xs H Q => ∃ p ys, xs = [.ref p] ∧ SqL X.K H p ys ∧ NewT H ys Q) := by
  rintro pins s σ H xs us Q I r ⟨p, ys, rfl, hq, q⟩
  obtain rfl := Vals.ref1 r
  obtain ⟨its, rv, pl, hz⟩ := I.list hq
  have n1 := rv.length
  refine call_tuple_list pl.isList (fun h' kp => ?_) (by simp only [List.size_toArray] <;> omega)
  exact q.go (s := { s with heap := h' }) (t' := s.toks) (I.kept (t' := s.toks) kp) rv hz
/-- tuple(range(..)) -/
def tTupRgF (te : L2.St → Hp → (Int → Int → Hp → Prop) → Prop) : TE := fun σ H Q => te σ H fun a b H1 => RgOk a b ∧ NewT H1 (rgV a b) Q
theorem pe_tupRgF {e : Expr} {te : L2.St → Hp → (Int → Int → Hp → Prop) → Prop} {p pos : Pos} (hc : X.calm = true) (hg : Gl X "tuple") (hm : X.mg "tuple" = none) (he : PRg X e te) (na : starEach [e] X.env = (false, eval e X.env) :: starEach [] X.env := by rfl) :
    PE X (.Call (.Name "tuple" p) [e] [] pos) (tTupRgF te) := by
  refine ⟨fun pins s σ H Q I h => Call_ (ld_blt I hg hm boot_tuple (PyProof.Rows.callWith_type1 (args_cons (thn (he pins s σ H _ I h) fun x s1 ⟨r, a, b, t, u, v, H1, ex, hr, I1, ⟨b1, b2, b3, b4, b5⟩, q⟩ => args_nil ?_) na) na))⟩
  subst ex
  refine call_tuple_range (n := (b - a).toNat) (I1.ok.hd hc) hr (small_one b1 b2 b3 b4) (rangeSize_nat a b) b5 fun h' tk acc hk hi => ?_
  have z : (rgV a b).length ≤ sizeLine := by rw [rgV_length, sizeLine_eq]; omega
  have g := q.go (s := { s1 with heap := h', toks := tk }) (t' := tk) (I1.kept hk) (vals_rg hi) z
  rw [show tupOb acc.toList = { cls := .type "tuple", data := .seq acc } by unfold tupOb; rw [Array.toArray_toList]] at g
  exact g
/-- t + u -/
def rCatF (K : PySem.W.Frag) : R2 := fun x y H Q => ∃ a b xs ys, x = .ref a ∧ y = .ref b ∧ SqT K H a xs ∧ SqT K H b ys ∧ xs.length + ys.length ≤ sizeLine ∧ (xs = [] → Q (.ref b) H) ∧ (xs ≠ [] → ys = [] → Q (.ref a) H) ∧ (xs ≠ [] → ys ≠ [] → NewT H (xs ++ ys) Q)
theorem op_catF : OpR X (binaryOp .Add) (rCatF X.K) := by
  rintro pins s σ H x y v u Q I rx ry ⟨a, b, xs, ys, rfl, rfl, ha, hb, hz, q0, q1, q2⟩
  cases rx
  cases ry
  obtain ⟨as, r1, p1, _⟩ := I.tuple ha
  obtain ⟨bs, r2, p2, _⟩ := I.tuple hb
  by_cases hx : xs = []
  · subst hx
    cases r1
    exact cat_tup0 p1 p2 ⟨.ref b, H, I, rfl, q0 rfl⟩
  · refine HT.cat_tup p1 p2 (fun z => hx (r1.nil_iff.mp z)) (fun z => ⟨.ref a, H, I, rfl, q1 hx (r2.nil_iff.mp z)⟩) (fun z => ?_) (by rw [← r1.length, ← r2.length]; exact hz)
    exact (q2 hx fun w => z (r2.nil_iff.mpr w)).go (t' := s.toks) I (r1.append r2) (by rw [List.length_append]; exact hz)
/-- t[lo:hi] -/
def rSlF (K : PySem.W.Frag) : V → Option Int → Option Int → Hp → VK → Prop := fun x lo hi H Q => ∃ a xs, x = .ref a ∧ SqT K H a xs ∧
  (HT.sIx xs.length 0 lo = 0 ∧ HT.sIx xs.length xs.length hi = xs.length → Q (.ref a) H) ∧ (¬ (HT.sIx xs.length 0 lo = 0 ∧ HT.sIx xs.length xs.length hi = xs.length) → NewT H (cutV xs lo hi) Q)
theorem sl_tupF : SlR X (rSlF X.K) := by
  rintro pins s σ H x v vl vu lo hi sl Q I rx hs pl pu ⟨a, xs, rfl, hx, q1, q2⟩
  cases rx
  obtain ⟨its, r, ht, hz⟩ := I.tuple hx
  have n1 : its.toArray.size = xs.length := by rw [List.size_toArray]; exact r.length.symm
  refine ⟨"tuple", _, PyProof.Rows.slot_tuple_getitem.lookup, ht.typeIs, ?_⟩
  by_cases hw : HT.sIx xs.length 0 lo = 0 ∧ HT.sIx xs.length xs.length hi = xs.length
  · exact getItem_tuple_whole ht hs pl pu (by rw [n1]; exact hw) ⟨.ref a, H, I, rfl, q1 hw⟩
  · refine HT.getItem_tuple_cut ht hs pl pu (by rw [n1]; exact hw) ?_ (by rw [n1]; exact hz)
    rw [n1]
    exact (q2 hw).go (t' := s.toks) I ((r.drop (HT.sIx xs.length 0 lo)).take (HT.sIx xs.length xs.length hi - HT.sIx xs.length 0 lo)) (Nat.le_trans (cutV_length xs lo hi) hz)
/-- t.m(e) of such a tuple -/
def tBMF (r : V → List V → Hp → VK → Prop) (to : TE) (t : TA) : TE := fun σ H Q => to σ H fun x H1 => (∃ a o xs, x = .ref a ∧ H1 a = some (.frz o (.tup xs)) ∧ o.dict = none) ∧ t σ H1 fun xs H2 => r x xs H2 Q
theorem pe_bmF {o e : Expr} {es : List Expr} {to : TE} {t : TA} {name : Str} {apos cpos : Pos} {id : String} {r : V → List V → Hp → VK → Prop} (slot : Slot "tuple" name id) (hty : typeOf (.builtin id) = pure (.type "method_descriptor")) (hm : MtR X id r) (ho : PE X o to) (ha : PA X (e :: es) t)
    (hbase : attributeBase o name X.env (eval o X.env) = eval o X.env := by rfl)
    (hfew : ((backTo cpos (starEach (e :: es) X.env)).all (fun x => !x.1) && (backToKw cpos (keywordEach [] X.env)).all (fun x => x.1.isSome) && decide ((e :: es).length + ([] : List Keyword).length + (if ([] : List Keyword).isEmpty then 0 else 1) < 30)) = true := by rfl)
    (hline : (apos.endLine == cpos.line) = true := by rfl) (hs : starEach (e :: es) X.env = (false, eval e X.env) :: starEach es X.env := by rfl) (hplain : (backTo cpos (starEach es X.env)).any (·.1) = false := by rfl) :
    PE X (.Call (.Attribute o name apos) (e :: es) [] cpos) (tBMF r to t) := by
  refine ⟨fun pins s σ H Q I h => wpAny_Call_method_late hbase hfew hline rfl (thn (ho.run pins s σ H _ I h) fun v s1 ⟨x, H1, I1, r1, ⟨a, o, xs, ea, ht, hd⟩, q1⟩ => ?_)⟩
  subst ea
  cases r1
  obtain ⟨g, z, us, ru, pt⟩ := I1.hok _ _ ht
  refine ⟨"tuple", id, PySem.F.plainAttrs_tuple, slot, hty, pt.typeIs, fun b eb => by cases eb; exact ⟨o, g, hd⟩, ?_⟩
  have hA := ha.run cpos pins s1 σ H1 _ I1 q1
  rw [hs] at hA ⊢
  refine Calls.callWith_builtin (by show (false || (backTo cpos (starEach es X.env)).any (·.1)) = false; rw [hplain] <;> rfl) (Calls.evalArgs_plain (thn hA fun us s2 ⟨vs, H2, I2, r2, q2⟩ => ?_))
  exact hm pins s2 σ H2 (.ref a) vs _ us Q I2 rfl r2 q2
end
end CD
set_option Elab.async false
set_option linter.all false
set_option maxRecDepth 100000
set_option maxHeartbeats 4000000
/-! data: what a value stands for, whatever is laid behind it -/
namespace CD
open PySem PySem.Spec L2
open PyProof.Rows hiding St

mutual
/-- in the heap H the value stands for the datum -/
inductive Rep (H : Hp) : V → PyData → Prop
  | non : Rep H .non .none
  | bl (b : Bool) : Rep H (.bl b) (.bool b)
  | int (i : Int) : Rep H (.int i) (.int i)
  | lst {a : Addr} {xs : List V} {ds : List PyData} : H a = some (.lst xs) → RepAll H xs ds → Rep H (.ref a) (.list ds)
  | tup {a : Addr} {o : Obj} {xs : List V} {ds : List PyData} : H a = some (.frz o (.tup xs)) → o.dict = none → RepAll H xs ds → Rep H (.ref a) (.tuple ds)
inductive RepAll (H : Hp) : List V → List PyData → Prop
  | nil : RepAll H [] []
  | cons {v : V} {vs : List V} {d : PyData} {ds : List PyData} : Rep H v d → RepAll H vs ds → RepAll H (v :: vs) (d :: ds)
end
mutual
theorem Rep.up {H H' : Hp} (e : Same H H') : ∀ {d : PyData} {v : V}, Rep H v d → Rep H' v d
  | .none, _, r => by cases r; exact .non
  | .bool _, _, r => by cases r; exact .bl _
  | .int _, _, r => by cases r; exact .int _
  | .str _, _, r => nomatch r
  | .list _, _, r => by cases r with | lst h1 h2 => exact .lst (e _ _ h1) (RepAll.up e h2)
  | .tuple _, _, r => by cases r with | tup h1 h0 h2 => exact .tup (e _ _ h1) h0 (RepAll.up e h2)
  | .dict _, _, r => nomatch r
theorem RepAll.up {H H' : Hp} (e : Same H H') : ∀ {ds : List PyData} {vs : List V}, RepAll H vs ds → RepAll H' vs ds
  | [], _, r => by cases r; exact .nil
  | _ :: _, _, r => by cases r with | cons h1 h2 => exact .cons (Rep.up e h1) (RepAll.up e h2)
end
theorem sqF {K : PySem.W.Frag} {H : Hp} {a : Addr} {o : Obj} {xs : List V} (h : H a = some (.frz o (.tup xs))) : SqT K H a xs := .inl (.inr ⟨o, h⟩)
mutual
theorem Rep.dp {K : PySem.W.Frag} {H : Hp} : ∀ {d : PyData} {v : V}, Rep H v d → Dp K H v d
  | .none, _, r => by cases r; exact .non
  | .bool _, _, r => by cases r; exact .bl _
  | .int _, _, r => by cases r; exact .int _
  | .str _, _, r => nomatch r
  | .list _, _, r => by cases r with | lst h1 h2 => exact .lst (SqL.of h1) (RepAll.dp h2)
  | .tuple _, _, r => by cases r with | tup h1 h0 h2 => exact .tup (sqF h1) (RepAll.dp h2)
  | .dict _, _, r => nomatch r
theorem RepAll.dp {K : PySem.W.Frag} {H : Hp} : ∀ {ds : List PyData} {vs : List V}, RepAll H vs ds → DpAll K H vs ds
  | [], _, r => by cases r; exact .nil
  | _ :: _, _, r => by cases r with | cons h1 h2 => exact .cons (Rep.dp h1) (RepAll.dp h2)
end
section
variable {H : Hp}
theorem RepAll.len : ∀ {ds : List PyData} {vs : List V}, RepAll H vs ds → vs.length = ds.length
  | [], _, r => by cases r; rfl
  | _ :: _, _, r => by cases r with | cons _ h2 => exact congrArg Nat.succ (RepAll.len h2)
theorem RepAll.get : ∀ {ds : List PyData} {vs : List V} {i : Nat} {d : PyData}, RepAll H vs ds → ds[i]? = some d → ∃ v, vs[i]? = some v ∧ Rep H v d
  | [], _, _, _, _, h => by simp at h
  | _ :: _, _, 0, _, r, h => by
    cases r with | cons h1 _ => exact ⟨_, rfl, by cases h; exact h1⟩
  | _ :: _, _, i + 1, _, r, h => by
    cases r with | cons _ h2 => exact RepAll.get (i := i) h2 (by simpa using h)
theorem RepAll.app : ∀ {ds es : List PyData} {vs us : List V}, RepAll H vs ds → RepAll H us es → RepAll H (vs ++ us) (ds ++ es)
  | [], _, _, _, r, q => by cases r; exact q
  | _ :: _, _, _, _, r, q => by cases r with | cons h1 h2 => exact .cons h1 (RepAll.app h2 q)
theorem RepAll.take : ∀ {ds : List PyData} {vs : List V} (n : Nat), RepAll H vs ds → RepAll H (vs.take n) (ds.take n)
  | _, _, 0, _ => by rw [List.take_zero, List.take_zero]; exact .nil
  | [], _, _ + 1, r => by cases r; exact .nil
  | _ :: _, _, n + 1, r => by cases r with | cons h1 h2 => exact .cons h1 (RepAll.take n h2)
theorem RepAll.drop : ∀ {ds : List PyData} {vs : List V} (n : Nat), RepAll H vs ds → RepAll H (vs.drop n) (ds.drop n)
  | _, _, 0, r => r
  | [], _, _ + 1, r => by cases r; exact .nil
  | _ :: _, _, n + 1, r => by cases r with | cons h1 h2 => exact RepAll.drop n h2
theorem RepAll.set : ∀ {ds : List PyData} {vs : List V} {v : V} {d : PyData} (i : Nat), RepAll H vs ds → Rep H v d → RepAll H (vs.set i v) (ds.set i d)
  | [], _, _, _, _, r, _ => by cases r; exact .nil
  | _ :: _, _, _, _, 0, r, q => by cases r with | cons _ h2 => exact .cons q h2
  | _ :: _, _, _, _, i + 1, r, q => by cases r with | cons h1 h2 => exact .cons h1 (RepAll.set i h2 q)
theorem RepAll.one {vs : List V} {d : PyData} (r : RepAll H vs [d]) : ∃ v, vs = [v] ∧ Rep H v d := by
  cases r with | cons h1 h2 => cases h2; exact ⟨_, rfl, h1⟩
theorem RepAll.two {vs : List V} {d e : PyData} (r : RepAll H vs [d, e]) : ∃ v u, vs = [v, u] ∧ Rep H v d ∧ Rep H u e := by
  cases r with | cons h1 h2 => obtain ⟨u, rfl, h3⟩ := RepAll.one h2; exact ⟨_, _, rfl, h1, h3⟩
theorem RepAll.three {vs : List V} {d e f : PyData} (r : RepAll H vs [d, e, f]) : ∃ v u w, vs = [v, u, w] ∧ Rep H v d ∧ Rep H u e ∧ Rep H w f := by
  cases r with | cons h1 h2 => obtain ⟨u, w, rfl, h3, h4⟩ := RepAll.two h2; exact ⟨_, _, _, rfl, h1, h3, h4⟩
theorem Rep.toInt {v : V} {i : Int} (r : Rep H v (.int i)) : v = .int i := by cases r; rfl
theorem Rep.toBl {v : V} {b : Bool} (r : Rep H v (.bool b)) : v = .bl b := by cases r; rfl
theorem Rep.toNon {v : V} (r : Rep H v .none) : v = .non := by cases r; rfl
theorem Rep.toLst {v : V} {ds : List PyData} (r : Rep H v (.list ds)) : ∃ a xs, v = .ref a ∧ H a = some (.lst xs) ∧ RepAll H xs ds := by
  cases r with | lst h1 h2 => exact ⟨_, _, rfl, h1, h2⟩
theorem Rep.toTup {v : V} {ds : List PyData} (r : Rep H v (.tuple ds)) : ∃ a o xs, v = .ref a ∧ H a = some (.frz o (.tup xs)) ∧ o.dict = none ∧ RepAll H xs ds := by
  cases r with | tup h1 h0 h2 => exact ⟨_, _, _, rfl, h1, h0, h2⟩
end
/-- a new address -/
theorem same_new {H : Hp} {p : Addr} {o : HO} (n : H p = none) : Same H (upd H p o) := fun b u e => by
  rw [upd_ne (ne_of_none e n)]; exact e

/-! ### numbers as data -/
abbrev dN (n : Nat) : PyData := .int (n : Int)
abbrev dNs (l : List Nat) : List PyData := l.map dN
abbrev dO : Option Nat → PyData
  | none => .none
  | some n => dN n
abbrev vO : Option Nat → V
  | none => .non
  | some n => .int (n : Int)
theorem rep_o {H : Hp} : ∀ {o : Option Nat} {v : V}, Rep H v (dO o) → v = vO o
  | none, _, r => r.toNon
  | some _, _, r => r.toInt
theorem repAll_n {H : Hp} : ∀ {l : List Nat} {vs : List V}, RepAll H vs (dNs l) → vs = l.map fun n : Nat => V.int (n : Int)
  | [], _, r => by cases r; rfl
  | _ :: _, _, r => by cases r with | cons h1 h2 => rw [h1.toInt, repAll_n h2]; rfl
theorem repAll_o {H : Hp} : ∀ {l : List (Option Nat)} {vs : List V}, RepAll H vs (l.map dO) → vs = l.map vO
  | [], _, r => by cases r; rfl
  | _ :: _, _, r => by cases r with | cons h1 h2 => rw [rep_o h1, repAll_o h2]; rfl
theorem repAll_of_n {H : Hp} : ∀ l : List Nat, RepAll H (l.map fun n : Nat => V.int (n : Int)) (dNs l)
  | [] => .nil
  | n :: l => .cons (.int n) (repAll_of_n l)

/-! ### readings that hand on a datum and keep what stands -/
def Y (t : TE) (σ : St) (H : Hp) (d : PyData) : Prop := ∀ H1, Same H H1 → ∀ Q : VK, (∀ v H2, Same H1 H2 → Rep H2 v d → Q v H2) → t σ H1 Q
def YT (t : TT) (σ : St) (H : Hp) (b : Bool) : Prop := ∀ H1, Same H H1 → ∀ Q : Bool → Hp → Prop, (∀ H2, Same H1 H2 → Q b H2) → t σ H1 Q
def YA (t : TA) (σ : St) (H : Hp) (ds : List PyData) : Prop := ∀ H1, Same H H1 → ∀ Q : List V → Hp → Prop, (∀ vs H2, Same H1 H2 → RepAll H2 vs ds → Q vs H2) → t σ H1 Q
section
variable {t : TE} {tt : TT} {ta tb : TE} {σ : St} {H H' : Hp} {d e : PyData}
theorem Y.go (y : Y t σ H d) {Q : VK} (q : ∀ v H2, Same H H2 → Rep H2 v d → Q v H2) : t σ H Q := y H (Same.refl H) Q q
theorem YT.go {b : Bool} (y : YT tt σ H b) {Q : Bool → Hp → Prop} (q : ∀ H2, Same H H2 → Q b H2) : tt σ H Q := y H (Same.refl H) Q q
theorem YA.go {t : TA} {ds : List PyData} (y : YA t σ H ds) {Q : List V → Hp → Prop} (q : ∀ vs H2, Same H H2 → RepAll H2 vs ds → Q vs H2) : t σ H Q := y H (Same.refl H) Q q
theorem Y.up (y : Y t σ H d) (s : Same H H') : Y t σ H' d := fun H1 s1 => y H1 (s.trans s1)
theorem YT.up {b : Bool} (y : YT tt σ H b) (s : Same H H') : YT tt σ H' b := fun H1 s1 => y H1 (s.trans s1)
theorem Y.cast (y : Y t σ H d) (q : d = e) : Y t σ H e := q ▸ y
theorem YT.cast {b c : Bool} (y : YT tt σ H b) (q : b = c) : YT tt σ H c := q ▸ y
theorem y_var {i : Nat} {v : V} (r : Rep H v d) (h : σ[i]? = some (some v) := by rfl) : Y (tVar i) σ H d := fun H1 s Q q => ⟨v, h, q v H1 (Same.refl H1) (r.up s)⟩
theorem y_int {i : Int} : Y (tC (.int i)) σ H (.int i) := fun H1 s Q q => q _ H1 (Same.refl H1) (.int i)
theorem y_bl {b : Bool} : Y (tC (.bl b)) σ H (.bool b) := fun H1 s Q q => q _ H1 (Same.refl H1) (.bl b)
theorem y_non : Y (tC .non) σ H .none := fun H1 s Q q => q _ H1 (Same.refl H1) .non
theorem ya_nil : YA tNil σ H [] := fun H1 s Q q => q [] H1 (Same.refl H1) .nil
theorem ya_cons {tr : TA} {ds : List PyData} (h1 : Y ta σ H d) (h2 : YA tr σ H ds) : YA (tCons ta tr) σ H (d :: ds) := fun H1 s Q q =>
  h1 H1 s _ fun v H2 s2 r => h2 H2 (s.trans s2) _ fun vs H3 s3 rs => q _ H3 (s2.trans s3) (.cons (r.up s3) rs)
/-- an operator by what it does to values -/
theorem y_op {r : R2} {x y : PyData} (ha : Y ta σ H x) (hb : Y tb σ H y) (h : ∀ v u H1 Q, Same H H1 → Rep H1 v x → Rep H1 u y → (∀ w H2, Same H1 H2 → Rep H2 w d → Q w H2) → r v u H1 Q) : Y (tOp r ta tb) σ H d := fun H1 s Q q =>
  ha H1 s _ fun v H2 s2 r1 => hb H2 (s.trans s2) _ fun u H3 s3 r2 => h v u H3 Q ((s.trans s2).trans s3) (r1.up s3) r2 fun w H4 s4 => q w H4 ((s2.trans s3).trans s4)
theorem y_add {i j : Int} (ha : Y ta σ H (.int i)) (hb : Y tb σ H (.int j)) : Y (tOp (rI0 fun i j => .int (i + j)) ta tb) σ H (.int (i + j)) :=
  y_op ha hb fun v u H1 Q _ r1 r2 q => ⟨i, j, r1.toInt, r2.toInt, q _ H1 (Same.refl H1) (.int _)⟩
theorem y_sub {i j : Int} (ha : Y ta σ H (.int i)) (hb : Y tb σ H (.int j)) : Y (tOp (rI0 fun i j => .int (i - j)) ta tb) σ H (.int (i - j)) :=
  y_op ha hb fun v u H1 Q _ r1 r2 q => ⟨i, j, r1.toInt, r2.toInt, q _ H1 (Same.refl H1) (.int _)⟩
theorem y_mul {i j : Int} (ha : Y ta σ H (.int i)) (hb : Y tb σ H (.int j)) (c : CMul i j) : Y (tOp (rI CMul fun i j => .int (i * j)) ta tb) σ H (.int (i * j)) :=
  y_op ha hb fun v u H1 Q _ r1 r2 q => ⟨i, j, r1.toInt, r2.toInt, c, q _ H1 (Same.refl H1) (.int _)⟩
theorem y_neg {i : Int} (ha : Y ta σ H (.int i)) : Y (tUn (rU fun i => .int (-i)) ta) σ H (.int (-i)) := fun H1 s Q q =>
  ha H1 s _ fun v H2 s2 r => ⟨i, r.toInt, q _ H2 s2 (.int _)⟩
theorem y_cmp {p : Int → Int → Bool} {i j : Int} (ha : Y ta σ H (.int i)) (hb : Y tb σ H (.int j)) : Y (tOp (rI0 fun i j => .bl (p i j)) ta tb) σ H (.bool (p i j)) :=
  y_op ha hb fun v u H1 Q _ r1 r2 q => ⟨i, j, r1.toInt, r2.toInt, q _ H1 (Same.refl H1) (.bl _)⟩
theorem y_eq {K : PySem.W.Frag} {x y : PyData} (ha : Y ta σ H x) (hb : Y tb σ H y) (h1 : SeqAt.shaped x = true) (h2 : SeqAt.shaped y = true) : Y (tOp (rEqD K) ta tb) σ H (.bool (PyData.eqv x y)) :=
  y_op ha hb fun v u H1 Q _ r1 r2 q => ⟨x, y, r1.dp, r2.dp, h1, h2, q _ H1 (Same.refl H1) (.bl _)⟩
theorem y_ne {K : PySem.W.Frag} {x y : PyData} (ha : Y ta σ H x) (hb : Y tb σ H y) (h1 : SeqAt.shaped x = true) (h2 : SeqAt.shaped y = true) : Y (tOp (rNeD K) ta tb) σ H (.bool (!PyData.eqv x y)) :=
  y_op ha hb fun v u H1 Q _ r1 r2 q => ⟨x, y, r1.dp, r2.dp, h1, h2, q _ H1 (Same.refl H1) (.bl _)⟩
/-- a test by its value -/
theorem yt_val {b : Bool} (h : Y t σ H (.bool b)) : YT (tB t) σ H b := fun H1 s Q q => h H1 s _ fun v H2 s2 r => ⟨b, r.toBl, q H2 s2⟩
theorem yt_test {b : Bool} (h : Y t σ H (.bool b)) : YT (tTest t) σ H b := fun H1 s Q q => h H1 s _ fun v H2 s2 r => ⟨b, r.toBl, q H2 s2⟩
theorem yt_not {b : Bool} (h : YT tt σ H b) : YT (tNot tt) σ H (!b) := fun H1 s Q q => h H1 s _ fun H2 s2 => q H2 s2
theorem yt_and {t1 t2 : TT} {b c : Bool} (h1 : YT t1 σ H b) (h2 : b = true → YT t2 σ H c) : YT (tAnd t1 t2) σ H (b && c) := fun H1 s Q q => h1 H1 s _ fun H2 s2 => by
  cases b with
  | true => exact iteT (h2 rfl H2 (s.trans s2) _ fun H3 s3 => q H3 (s2.trans s3))
  | false => exact iteF (q H2 s2)
theorem yt_or {t1 t2 : TT} {b c : Bool} (h1 : YT t1 σ H b) (h2 : b = false → YT t2 σ H c) : YT (tOr t1 t2) σ H (b || c) := fun H1 s Q q => h1 H1 s _ fun H2 s2 => by
  cases b with
  | true => exact iteT (q H2 s2)
  | false => exact iteF (h2 rfl H2 (s.trans s2) _ fun H3 s3 => q H3 (s2.trans s3))
theorem yt_yes : YT tYes σ H true := fun H1 s Q q => q H1 (Same.refl H1)
theorem y_and {b : Bool} {t2 : TE} (h1 : Y t σ H (.bool b)) (h2 : b = true → Y t2 σ H d) (h3 : b = false → d = .bool false) : Y (tAndV t t2) σ H d := fun H1 s Q q => h1 H1 s _ fun v H2 s2 r => by
  refine ⟨b, r.toBl, ?_⟩
  cases b with
  | true => exact iteT (h2 rfl H2 (s.trans s2) _ fun w H3 s3 => q w H3 (s2.trans s3))
  | false => exact iteF (q _ H2 s2 (by rw [h3 rfl]; exact .bl _))
theorem y_or {b : Bool} {t2 : TE} (h1 : Y t σ H (.bool b)) (h2 : b = false → Y t2 σ H d) (h3 : b = true → d = .bool true) : Y (tOrV t t2) σ H d := fun H1 s Q q => h1 H1 s _ fun v H2 s2 r => by
  refine ⟨b, r.toBl, ?_⟩
  cases b with
  | true => exact iteT (q _ H2 s2 (by rw [h3 rfl]; exact .bl _))
  | false => exact iteF (h2 rfl H2 (s.trans s2) _ fun w H3 s3 => q w H3 (s2.trans s3))
theorem y_not {b : Bool} (h1 : Y t σ H (.bool b)) : Y (tNotV t) σ H (.bool (!b)) := fun H1 s Q q => h1 H1 s _ fun v H2 s2 r => ⟨b, r.toBl, q _ H2 s2 (.bl _)⟩
theorem y_if {b : Bool} (h : YT tt σ H b) (h1 : b = true → Y ta σ H d) (h2 : b = false → Y tb σ H d) : Y (tIf tt ta tb) σ H d := fun H1 s Q q => h H1 s _ fun H2 s2 => by
  cases b with
  | true => exact iteT (h1 rfl H2 (s.trans s2) _ fun w H3 s3 => q w H3 (s2.trans s3))
  | false => exact iteF (h2 rfl H2 (s.trans s2) _ fun w H3 s3 => q w H3 (s2.trans s3))
/-- a < b < c -/
theorem y_chain {p p' : Int → Int → Bool} {tc : TE} {i j k : Int} (ha : Y ta σ H (.int i)) (hb : Y tb σ H (.int j)) (hc : Y tc σ H (.int k)) :
    Y (tChain (rI0 fun i j => .bl (p i j)) (rI0 fun i j => .bl (p' i j)) ta tb tc) σ H (.bool (p i j && p' j k)) := fun H1 s Q q =>
  ha H1 s _ fun v H2 s2 r1 => hb H2 (s.trans s2) _ fun u H3 s3 r2 => by
    refine ⟨i, j, r1.toInt, r2.toInt, p i j, rfl, ?_⟩
    cases h : p i j with
    | true =>
      refine iteT (hc H3 ((s.trans s2).trans s3) _ fun w H4 s4 r3 => ⟨j, k, r2.toInt, r3.toInt, q _ H4 ((s2.trans s3).trans s4) ?_⟩)
      rw [h, Bool.true_and]; exact .bl _
    | false =>
      refine iteF (q _ H3 (s2.trans s3) ?_)
      rw [h, Bool.false_and]; exact .bl _
theorem eqv_none {K : PySem.W.Frag} : True := trivial
/-- is None -/
theorem y_isN {x : PyData} (ha : Y ta σ H x) (hb : Y tb σ H .none) : Y (tOp (fun x y H Q => y = .non ∧ Q (.bl (decide (x = .non))) H) ta tb) σ H (.bool (PyData.eqv x .none)) :=
  y_op ha hb fun v u H1 Q _ r1 r2 q => ⟨r2.toNon, q _ H1 (Same.refl H1) (by
    have e : decide (v = .non) = PyData.eqv x .none := by cases r1 <;> rfl
    rw [e]; exact .bl _)⟩
theorem y_notN {x : PyData} (ha : Y ta σ H x) (hb : Y tb σ H .none) : Y (tOp (fun x y H Q => y = .non ∧ Q (.bl (!decide (x = .non))) H) ta tb) σ H (.bool (!PyData.eqv x .none)) :=
  y_op ha hb fun v u H1 Q _ r1 r2 q => ⟨r2.toNon, q _ H1 (Same.refl H1) (by
    have e : decide (v = .non) = PyData.eqv x .none := by cases r1 <;> rfl
    rw [e]; exact .bl _)⟩
/-- displays -/
theorem y_tup {t : TA} {ds : List PyData} (h : YA t σ H ds) (hl : ds.length ≤ 1000) : Y (tTupF t) σ H (.tuple ds) := fun H1 s Q q =>
  h H1 s _ fun vs H2 s2 r => ⟨by rw [r.len]; exact Nat.le_of_lt (small1000 hl), fun p o np hd => q _ _ (s2.trans (same_new np)) (.tup upd_same hd (r.up (same_new np)))⟩
theorem y_lst {t : TA} {ds : List PyData} (h : YA t σ H ds) (hl : ds.length ≤ 1000) : Y (tLst t) σ H (.list ds) := fun H1 s Q q =>
  h H1 s _ fun vs H2 s2 r => ⟨by rw [r.len]; exact Nat.le_of_lt (small1000 hl), fun p np => q _ _ (s2.trans (same_new np)) (.lst upd_same (r.up (same_new np)))⟩
/-- an item -/
theorem rep_at {ds : List PyData} {xs : List V} {i : Int} (r : RepAll H xs ds) (h : atI ds i = some d) : ∃ v, atI xs i = some v ∧ Rep H v d := by
  unfold atI at h ⊢
  rw [r.len]
  cases q : ixN ds.length i with
  | none => rw [q] at h; cases h
  | some j =>
    rw [q] at h
    exact RepAll.get r h
theorem y_ix {K : PySem.W.Frag} {ds : List PyData} {i : Int} (ha : Y ta σ H (.list ds)) (hb : Y tb σ H (.int i)) (h : atI ds i = some d) : Y (tOp (rIx K) ta tb) σ H d :=
  y_op ha hb fun v u H1 Q _ r1 r2 q => by
    obtain ⟨a, xs, rfl, h1, h2⟩ := r1.toLst
    obtain ⟨w, hw, rw⟩ := rep_at h2 h
    exact .inl ⟨a, xs, i, w, rfl, r2.toInt, SqL.of h1, hw, q _ H1 (Same.refl H1) rw⟩
theorem y_ixt {K : PySem.W.Frag} {ds : List PyData} {i : Int} (ha : Y ta σ H (.tuple ds)) (hb : Y tb σ H (.int i)) (h : atI ds i = some d) : Y (tOp (rIx K) ta tb) σ H d :=
  y_op ha hb fun v u H1 Q _ r1 r2 q => by
    obtain ⟨a, o, xs, rfl, h1, h0, h2⟩ := r1.toTup
    obtain ⟨w, hw, rw⟩ := rep_at h2 h
    exact .inr (.inl ⟨a, xs, i, w, rfl, r2.toInt, sqF h1, hw, q _ H1 (Same.refl H1) rw⟩)
end
end CD
set_option Elab.async false
set_option linter.all false
set_option maxRecDepth 100000
set_option maxHeartbeats 4000000
namespace CD
open PySem PySem.Spec L2
open PyProof.Rows hiding St
section
variable {t : TE} {tt : TT} {ta tb : TE} {σ : St} {H H' : Hp} {d e : PyData} {K : PySem.W.Frag}
theorem le1000 {n : Nat} (h : n ≤ 1000) : n ≤ sizeLine := Nat.le_of_lt (small1000 h)
/-- len -/
theorem y_len {ds : List PyData} (h : Y t σ H (.list ds)) : Y (tCB (fun xs H Q => ∃ p ys, xs = [V.ref p] ∧ (SqL K H p ys ∨ SqT K H p ys) ∧ Q (.int ys.length) H) (tCons t tNil)) σ H (dN ds.length) := fun H1 s Q q =>
  h H1 s _ fun v H2 s2 r => by
    obtain ⟨a, xs, rfl, h1, h2⟩ := r.toLst
    exact ⟨a, xs, rfl, .inl (SqL.of h1), q _ H2 s2 (by rw [h2.len]; exact .int _)⟩
theorem y_lent {ds : List PyData} (h : Y t σ H (.tuple ds)) : Y (tCB (fun xs H Q => ∃ p ys, xs = [V.ref p] ∧ (SqL K H p ys ∨ SqT K H p ys) ∧ Q (.int ys.length) H) (tCons t tNil)) σ H (dN ds.length) := fun H1 s Q q =>
  h H1 s _ fun v H2 s2 r => by
    obtain ⟨a, o, xs, rfl, h1, h0, h2⟩ := r.toTup
    exact ⟨a, xs, rfl, .inr (sqF h1), q _ H2 s2 (by rw [h2.len]; exact .int _)⟩
/-- isinstance of a built-in class -/
def tyD : PyData → String
  | .none => "NoneType"
  | .bool _ => "bool"
  | .int _ => "int"
  | .str _ => "str"
  | .list _ => "list"
  | .tuple _ => "tuple"
  | .dict _ => "dict"
theorem Rep.ty {v : V} (r : Rep H v d) : TyX K H v (.type (tyD d)) := by
  cases r with
  | non => exact .base .non
  | bl b => exact .base (.bl b)
  | int i => exact .base (.int i)
  | lst h _ => exact .base (.lst h)
  | tup h _ _ => exact .fTuple h
theorem y_isi {n : String} {b : Bool} (h : Y t σ H d) (hb : kitB (tyD d) n = some b) : Y (tCB (rIsi K) (tCons t (tCons (tC (.ty n)) tNil))) σ H (.bool b) := fun H1 s Q q =>
  h H1 s _ fun v H2 s2 r => ⟨v, .ty n, .type (tyD d), .type n, b, rfl, .ty n, r.ty, kit_ty hb, q _ H2 s2 (.bl b)⟩
theorem kit_ii : kitB "int" "int" = some true := by decide +kernel
theorem kit_ib : kitB "int" "bool" = some false := by decide +kernel
theorem kit_tt : kitB "tuple" "tuple" = some true := by decide +kernel
/-- in -/
def flatD : PyData → Bool
  | .none => true
  | .bool _ => true
  | .int _ => true
  | _ => false
theorem Rep.flat {v : V} (r : Rep H v d) (f : flatD d = true) : flatV v = true := by cases r <;> first | rfl | cases f
theorem Rep.eqv {v u : V} (r : Rep H v d) (r' : Rep H u e) (f : flatD d = true) (f' : flatD e = true) : eqV v u = PyData.eqv d e := by
  cases r <;> cases r' <;> first | rfl | (cases f; done) | (cases f'; done) | skip
  all_goals (simp only [eqV, PyData.eqv]; try rfl)
theorem RepAll.flat : ∀ {ds : List PyData} {vs : List V}, RepAll H vs ds → ds.all flatD = true → vs.all flatV = true
  | [], _, r, _ => by cases r; rfl
  | d :: ds, _, r, f => by
    cases r with | cons h1 h2 =>
      rw [List.all_cons, Bool.and_eq_true] at f ⊢
      exact ⟨h1.flat f.1, RepAll.flat h2 f.2⟩
theorem RepAll.inV {v : V} (r : Rep H v e) (f : flatD e = true) : ∀ {ds : List PyData} {vs : List V}, RepAll H vs ds → ds.all flatD = true → inV v vs = ds.any fun d => PyData.eqv d e
  | [], _, q, _ => by cases q; rfl
  | d :: ds, _, q, g => by
    cases q with | cons h1 h2 =>
      rw [List.all_cons, Bool.and_eq_true] at g
      have ih := RepAll.inV r f h2 g.2
      unfold L2.inV at ih ⊢
      rw [List.any_cons, List.any_cons, ih, h1.eqv r g.1 f]
theorem y_in {ds : List PyData} (ha : Y ta σ H e) (hb : Y tb σ H (.list ds)) (f : flatD e = true) (g : ds.all flatD = true) : Y (tOp (rIn K false) ta tb) σ H (.bool (ds.any fun d => PyData.eqv d e)) :=
  y_op ha hb fun v u H1 Q _ r1 r2 q => by
    obtain ⟨a, xs, rfl, h1, h2⟩ := r2.toLst
    exact ⟨a, xs, rfl, .inl (SqL.of h1), r1.flat f, h2.flat g, q _ H1 (Same.refl H1) (by rw [if_neg (by decide), h2.inV r1 f g]; exact .bl _)⟩
theorem y_int_ {ds : List PyData} (ha : Y ta σ H e) (hb : Y tb σ H (.tuple ds)) (f : flatD e = true) (g : ds.all flatD = true) : Y (tOp (rIn K false) ta tb) σ H (.bool (ds.any fun d => PyData.eqv d e)) :=
  y_op ha hb fun v u H1 Q _ r1 r2 q => by
    obtain ⟨a, o, xs, rfl, h1, h0, h2⟩ := r2.toTup
    exact ⟨a, xs, rfl, .inr (sqF h1), r1.flat f, h2.flat g, q _ H1 (Same.refl H1) (by rw [if_neg (by decide), h2.inV r1 f g]; exact .bl _)⟩
theorem y_nin {ds : List PyData} (ha : Y ta σ H e) (hb : Y tb σ H (.list ds)) (f : flatD e = true) (g : ds.all flatD = true) : Y (tOp (rIn K true) ta tb) σ H (.bool (!ds.any fun d => PyData.eqv d e)) :=
  y_op ha hb fun v u H1 Q _ r1 r2 q => by
    obtain ⟨a, xs, rfl, h1, h2⟩ := r2.toLst
    exact ⟨a, xs, rfl, .inl (SqL.of h1), r1.flat f, h2.flat g, q _ H1 (Same.refl H1) (by rw [if_pos rfl, h2.inV r1 f g]; exact .bl _)⟩
theorem y_nint {ds : List PyData} (ha : Y ta σ H e) (hb : Y tb σ H (.tuple ds)) (f : flatD e = true) (g : ds.all flatD = true) : Y (tOp (rIn K true) ta tb) σ H (.bool (!ds.any fun d => PyData.eqv d e)) :=
  y_op ha hb fun v u H1 Q _ r1 r2 q => by
    obtain ⟨a, o, xs, rfl, h1, h0, h2⟩ := r2.toTup
    exact ⟨a, xs, rfl, .inr (sqF h1), r1.flat f, h2.flat g, q _ H1 (Same.refl H1) (by rw [if_pos rfl, h2.inV r1 f g]; exact .bl _)⟩
theorem flat_ns (l : List Nat) : (dNs l).all flatD = true := by
  rw [List.all_map]
  exact List.all_eq_true.mpr fun _ _ => rfl
theorem any_ns (l : List Nat) (k : Nat) : ((dNs l).any fun d => PyData.eqv d (dN k)) = l.contains k := by
  induction l with
  | nil => rfl
  | cons a l ih =>
    show (PyData.eqv (dN a) (dN k) || (dNs l).any _) = _
    rw [ih, List.contains_cons]
    congr 1
    show ((a : Int) == (k : Int)) = (k == a)
    rw [Bool.eq_iff_iff, beq_iff_eq, beq_iff_eq]
    omega
/-- xs + ys, xs * k, t + u -/
theorem y_cat {ds es : List PyData} (ha : Y ta σ H (.list ds)) (hb : Y tb σ H (.list es)) (h : ds.length + es.length ≤ 1000) : Y (tOp rCat ta tb) σ H (.list (ds ++ es)) :=
  y_op ha hb fun v u H1 Q _ r1 r2 q => by
    obtain ⟨a, xs, rfl, h1, h2⟩ := r1.toLst
    obtain ⟨b, ys, rfl, g1, g2⟩ := r2.toLst
    exact ⟨a, b, xs, ys, rfl, rfl, h1, g1, by rw [h2.len, g2.len]; exact le1000 h, fun p np => q _ _ (same_new np) (.lst upd_same ((h2.up (same_new np)).app (g2.up (same_new np))))⟩
theorem y_catT {ds es : List PyData} (ha : Y ta σ H (.tuple ds)) (hb : Y tb σ H (.tuple es)) (h : ds.length + es.length ≤ 1000) : Y (tOp (rCatF K) ta tb) σ H (.tuple (ds ++ es)) :=
  y_op ha hb fun v u H1 Q _ r1 r2 q => by
    obtain ⟨a, o, xs, rfl, h1, h0, h2⟩ := r1.toTup
    obtain ⟨b, o', ys, rfl, g1, g0, g2⟩ := r2.toTup
    refine ⟨a, b, xs, ys, rfl, rfl, sqF h1, sqF g1, by rw [h2.len, g2.len]; exact le1000 h, fun e => ?_, fun _ e => ?_, fun _ _ p o np hd => q _ _ (same_new np) (.tup upd_same hd ((h2.up (same_new np)).app (g2.up (same_new np))))⟩
    · subst e
      cases h2
      exact q _ H1 (Same.refl H1) (.tup g1 g0 g2)
    · subst e
      cases g2
      rw [List.append_nil] at q
      exact q _ H1 (Same.refl H1) (.tup h1 h0 h2)
theorem y_rep {ds : List PyData} {k : Nat} (ha : Y ta σ H (.list ds)) (hb : Y tb σ H (dN k)) (h : ds.length * k ≤ 1000) (hk : k ≤ 1000) : Y (tOp rRep ta tb) σ H (.list (List.replicate k ds).flatten) :=
  y_op ha hb fun v u H1 Q _ r1 r2 q => by
    obtain ⟨a, xs, rfl, h1, h2⟩ := r1.toLst
    have hr : ∀ n : Nat, ∀ {H2 : Hp}, RepAll H2 xs ds → RepAll H2 (List.replicate n xs).flatten (List.replicate n ds).flatten := by
      intro n
      induction n with
      | zero => intro H2 _; exact .nil
      | succ n ih => intro H2 r; rw [List.replicate_succ, List.replicate_succ, List.flatten_cons, List.flatten_cons]; exact r.app (ih r)
    exact ⟨a, (k : Int), xs, rfl, r2.toInt, h1, by omega, by omega, by rw [h2.len, Int.toNat_natCast]; exact le1000 h, fun p np => q _ _ (same_new np) (.lst upd_same (by rw [Int.toNat_natCast]; exact hr k (h2.up (same_new np))))⟩

/-- slices -/
theorem y_take {tb : TE} {ds : List PyData} {i : Nat} (ha : Y t σ H (.list ds)) (hb : Y tb σ H (dN i)) : Y (tSl (rSlL K) t tNoPart (tPart tb)) σ H (.list (ds.take i)) := fun H1 s Q q =>
  ha H1 s _ fun v H2 s2 r => hb H2 (s.trans s2) _ fun u H3 s3 r2 => by
    obtain ⟨a, xs, rfl, h1, h2⟩ := (r.up s3).toLst
    refine ⟨(i : Int), r2.toInt, a, xs, rfl, SqL.of h1, fun p np => q _ _ ((s2.trans s3).trans (same_new np)) (.lst upd_same ?_)⟩
    have e : cutV xs none (some (i : Int)) = xs.take i := by
      unfold cutV
      rw [HT.sIx_none, HT.sIx_nat, List.drop_zero, Nat.sub_zero]
      rcases Nat.le_total i xs.length with z | z
      · rw [Nat.min_eq_left z]
      · rw [Nat.min_eq_right z, List.take_length, List.take_of_length_le z]
    rw [e]
    exact (h2.up (same_new np)).take i
theorem y_drop {tb : TE} {ds : List PyData} {i : Nat} (ha : Y t σ H (.list ds)) (hb : Y tb σ H (dN i)) : Y (tSl (rSlL K) t (tPart tb) tNoPart) σ H (.list (ds.drop i)) := fun H1 s Q q =>
  ha H1 s _ fun v H2 s2 r => hb H2 (s.trans s2) _ fun u H3 s3 r2 => by
    obtain ⟨a, xs, rfl, h1, h2⟩ := (r.up s3).toLst
    refine ⟨(i : Int), r2.toInt, a, xs, rfl, SqL.of h1, fun p np => q _ _ ((s2.trans s3).trans (same_new np)) (.lst upd_same ?_)⟩
    have e : cutV xs (some (i : Int)) none = xs.drop i := by
      unfold cutV
      rw [HT.sIx_none, HT.sIx_nat]
      rcases Nat.le_total i xs.length with z | z
      · rw [Nat.min_eq_left z, List.take_of_length_le (by rw [List.length_drop]; exact Nat.le_refl _)]
      · rw [Nat.min_eq_right z, List.drop_eq_nil_of_le z, List.drop_length, List.take_nil]
    rw [e]
    exact (h2.up (same_new np)).drop i
theorem y_takeT {tb : TE} {ds : List PyData} {i : Nat} (ha : Y t σ H (.tuple ds)) (hb : Y tb σ H (dN i)) : Y (tSl (rSlF K) t tNoPart (tPart tb)) σ H (.tuple (ds.take i)) := fun H1 s Q q =>
  ha H1 s _ fun v H2 s2 r => hb H2 (s.trans s2) _ fun u H3 s3 r2 => by
    obtain ⟨a, o, xs, rfl, h1, h0, h2⟩ := (r.up s3).toTup
    have e : cutV xs none (some (i : Int)) = xs.take i := by
      unfold cutV
      rw [HT.sIx_none, HT.sIx_nat, List.drop_zero, Nat.sub_zero]
      rcases Nat.le_total i xs.length with z | z
      · rw [Nat.min_eq_left z]
      · rw [Nat.min_eq_right z, List.take_length, List.take_of_length_le z]
    refine ⟨(i : Int), r2.toInt, a, xs, rfl, sqF h1, fun z => ?_, fun _ p o' np hd => q _ _ ((s2.trans s3).trans (same_new np)) (.tup upd_same hd ?_)⟩
    · rw [HT.sIx_nat] at z
      have hi : xs.length ≤ i := by omega
      rw [List.take_of_length_le (by rw [← h2.len]; exact hi)] at q
      exact q _ H3 (s2.trans s3) (.tup h1 h0 h2)
    · rw [e]
      exact (h2.up (same_new np)).take i
/-- ranges as values -/
theorem rep_rg {H : Hp} (a n : Nat) : RepAll H (rgV (a : Int) ((a + n : Nat) : Int)) ((List.range n).map fun i => dN (a + i)) := by
  have e : rgV (a : Int) ((a + n : Nat) : Int) = (List.range n).map fun i => V.int ((a + i : Nat) : Int) := by
    unfold rgV
    have : (((a + n : Nat) : Int) - (a : Int)).toNat = n := by omega
    rw [this]
    refine List.map_congr_left fun i _ => ?_
    congr 1
  rw [e]
  have : (List.range n).map (fun i => V.int ((a + i : Nat) : Int)) = ((List.range n).map (a + ·)).map fun i : Nat => V.int (i : Int) := by rw [List.map_map]; rfl
  rw [this]
  have q := repAll_of_n (H := H) ((List.range n).map (a + ·))
  unfold dNs at q
  rw [List.map_map (g := dN)] at q
  exact q
theorem y_listRg1 {n : Nat} (h : Y t σ H (dN n)) (hn : n ≤ 1000) : Y (tLstRg (tRg1 t)) σ H (.list (dNs (List.range n))) := fun H1 s Q q =>
  h H1 s _ fun v H2 s2 r => ⟨(n : Int), r.toInt, ⟨by omega, by omega, by omega, by omega, by omega⟩, fun p np => q _ _ (s2.trans (same_new np)) (.lst upd_same (by
    have := rep_rg (H := upd H2 p (.lst (rgV 0 (n : Int)))) 0 n
    simpa using this))⟩
theorem y_tupRg1 {n : Nat} (h : Y t σ H (dN n)) (hn : n ≤ 1000) : Y (tTupRgF (tRg1 t)) σ H (.tuple (dNs (List.range n))) := fun H1 s Q q =>
  h H1 s _ fun v H2 s2 r => ⟨(n : Int), r.toInt, ⟨by omega, by omega, by omega, by omega, by omega⟩, fun p o np hd => q _ _ (s2.trans (same_new np)) (.tup upd_same hd (by
    have := rep_rg (H := upd H2 p (.frz o (.tup (rgV 0 (n : Int))))) 0 n
    simpa using this))⟩
theorem y_listRg2 {tb : TE} {a n : Nat} (h : Y t σ H (dN a)) (h2 : Y tb σ H (dN (a + n))) (hn : a + n ≤ 1000) : Y (tLstRg (tRg2 t tb)) σ H (.list ((List.range n).map fun i => dN (a + i))) := fun H1 s Q q =>
  h H1 s _ fun v H2 s2 r => h2 H2 (s.trans s2) _ fun u H3 s3 r3 => ⟨(a : Int), ((a + n : Nat) : Int), r.toInt, r3.toInt, ⟨by omega, by omega, by omega, by omega, by omega⟩, fun p np => q _ _ ((s2.trans s3).trans (same_new np)) (.lst upd_same (rep_rg a n))⟩
/-- tuple(xs), int(i) -/
theorem y_tupOf {ds : List PyData} (h : Y t σ H (.list ds)) : Y (tCB (fun xs H Q => ∃ p ys, xs = [V.ref p] ∧ SqL K H p ys ∧ NewT H ys Q) (tCons t tNil)) σ H (.tuple ds) := fun H1 s Q q =>
  h H1 s _ fun v H2 s2 r => by
    obtain ⟨a, xs, rfl, h1, h2⟩ := r.toLst
    exact ⟨a, xs, rfl, SqL.of h1, fun p o np hd => q _ _ (s2.trans (same_new np)) (.tup upd_same hd (h2.up (same_new np)))⟩
theorem y_int1 {i : Int} (h : Y t σ H (.int i)) : Y (tCB (fun xs H Q => (∃ i, xs = [V.int i] ∧ Q (.int i) H) ∨ ∃ k, xs = [V.bl k] ∧ Q (.int (if k then 1 else 0)) H) (tCons t tNil)) σ H (.int i) := fun H1 s Q q =>
  h H1 s _ fun v H2 s2 r => .inl ⟨i, by rw [r.toInt], q _ H2 s2 (.int i)⟩

/-! ### what changes lists, or all but lists and tuples -/
mutual
theorem Rep.change {H H' : Hp} (el : ∀ b xs, H b = some (.lst xs) → H' b = some (.lst xs)) (et : ∀ b o u, H b = some (.frz o u) → H' b = some (.frz o u)) : ∀ {d : PyData} {v : V}, Rep H v d → Rep H' v d
  | .none, _, r => by cases r; exact .non
  | .bool _, _, r => by cases r; exact .bl _
  | .int _, _, r => by cases r; exact .int _
  | .str _, _, r => nomatch r
  | .list _, _, r => by cases r with | lst h1 h2 => exact .lst (el _ _ h1) (RepAll.change el et h2)
  | .tuple _, _, r => by cases r with | tup h1 h0 h2 => exact .tup (et _ _ _ h1) h0 (RepAll.change el et h2)
  | .dict _, _, r => nomatch r
theorem RepAll.change {H H' : Hp} (el : ∀ b xs, H b = some (.lst xs) → H' b = some (.lst xs)) (et : ∀ b o u, H b = some (.frz o u) → H' b = some (.frz o u)) : ∀ {ds : List PyData} {vs : List V}, RepAll H vs ds → RepAll H' vs ds
  | [], _, r => by cases r; exact .nil
  | _ :: _, _, r => by cases r with | cons h1 h2 => exact .cons (Rep.change el et h1) (RepAll.change el et h2)
end
mutual
/-- no list in it -/
def noL : PyData → Bool
  | .none => true
  | .bool _ => true
  | .int _ => true
  | .str _ => true
  | .list _ => false
  | .tuple ds => noLs ds
  | .dict _ => false
def noLs : List PyData → Bool
  | [] => true
  | d :: ds => noL d && noLs ds
end
mutual
theorem Rep.changeT {H H' : Hp} (et : ∀ b o u, H b = some (.frz o u) → H' b = some (.frz o u)) : ∀ {d : PyData} {v : V}, noL d = true → Rep H v d → Rep H' v d
  | .none, _, _, r => by cases r; exact .non
  | .bool _, _, _, r => by cases r; exact .bl _
  | .int _, _, _, r => by cases r; exact .int _
  | .str _, _, _, r => nomatch r
  | .list _, _, n, r => by cases n
  | .tuple _, _, n, r => by cases r with | tup h1 h0 h2 => exact .tup (et _ _ _ h1) h0 (RepAll.changeT et n h2)
  | .dict _, _, _, r => nomatch r
theorem RepAll.changeT {H H' : Hp} (et : ∀ b o u, H b = some (.frz o u) → H' b = some (.frz o u)) : ∀ {ds : List PyData} {vs : List V}, noLs ds = true → RepAll H vs ds → RepAll H' vs ds
  | [], _, _, r => by cases r; exact .nil
  | _ :: _, _, n, r => by
    cases r with | cons h1 h2 =>
      have n' : (noL _ && noLs _) = true := n
      rw [Bool.and_eq_true] at n'
      exact .cons (Rep.changeT et n'.1 h1) (RepAll.changeT et n'.2 h2)
end
theorem noLs_map {α : Type} {f : α → PyData} : ∀ {l : List α}, (∀ x ∈ l, noL (f x) = true) → noLs (l.map f) = true
  | [], _ => rfl
  | a :: l, h => by
    show (noL (f a) && noLs (l.map f)) = true
    rw [h a List.mem_cons_self, noLs_map fun x hx => h x (List.mem_cons_of_mem _ hx)]
    rfl
/-- a list written to: the tuples stay -/
theorem tups_upd {H : Hp} {p : Addr} {xs ys : List V} (h : H p = some (.lst xs)) : ∀ b o u, H b = some (.frz o u) → upd H p (.lst ys) b = some (.frz o u) := fun b o u e => by
  rw [upd_ne (ne_of e h (fun z => nomatch z))]; exact e

/-! ### comprehensions -/
section
variable {α : Type} {enc f : α → PyData} {p : α → Bool} {xs : List α} {i : Nat} {vs : List Nat} {ts te : TE}
/-- what stands while the new list at D grows -/
def LcI (H2 : Hp) (D : Addr) (ds : Nat → List PyData) (i : Nat) (H3 : Hp) : Prop := ∃ acc, Same H2 H3 ∧ H3 D = some (.lst acc) ∧ RepAll H3 acc (ds i)
theorem LcI.start {H2 : Hp} {D : Addr} {ds : Nat → List PyData} (n : H2 D = none) (e : ds 0 = []) : LcI H2 D ds 0 (upd H2 D (.lst [])) :=
  ⟨[], same_new n, upd_same, by rw [e]; exact .nil⟩
theorem LcI.grow {H2 H4 : Hp} {D : Addr} {ds : Nat → List PyData} {k : Nat} {d : PyData} {v : V} {acc : List V} (n : H2 D = none) (s1 : Same H2 H4) (hD : H4 D = some (.lst acc)) (ra : RepAll H4 acc (ds k)) (r : Rep H4 v d) (hn : noLs (ds k) = true) (hd : noL d = true) (e : ds (k + 1) = ds k ++ [d]) :
    LcI H2 D ds (k + 1) (upd H4 D (.lst (acc ++ [v]))) := by
  refine ⟨_, fun b o q => ?_, upd_same, ?_⟩
  · rw [upd_ne (ne_of_none q n)]; exact s1 _ _ q
  · rw [e]
    exact (ra.changeT (tups_upd hD) hn).app (.cons (r.changeT (tups_upd hD) hd) .nil)
theorem take_filter_map {α β : Type} {f : α → β} {p : α → Bool} {xs : List α} {k : Nat} {x : α} (h : xs[k]? = some x) : ((xs.take (k + 1)).filter p).map f = ((xs.take k).filter p).map f ++ (if p x = true then [f x] else []) := by
  rw [List.take_add_one, h, List.filter_append, List.map_append]
  congr 1
  show (List.filter p [x]).map f = _
  by_cases q : p x = true
  · rw [if_pos q, List.filter_cons_of_pos q]; rfl
  · rw [if_neg q, List.filter_cons_of_neg q]; rfl
/-- a turn of a comprehension -/
theorem lc_turn {H0 H2 H3 : Hp} {D : Addr} {k : Nat} {x : α} {τ : L2.St} (hx : xs[k]? = some x) (n : H2 D = none) (s0 : Same H0 H2) (h : LcI H2 D (fun i => ((xs.take i).filter p).map f) k H3) (hl : xs.length ≤ 1000) (hn : ∀ x ∈ xs, noL (f x) = true)
    (ht : YT tt τ H0 (p x)) (he : p x = true → Y te τ H0 (f x)) :
    tt τ H3 fun b H4 => if b = true then te τ H4 fun y H5 => ∃ acc, H5 D = some (.lst acc) ∧ acc.length < sizeLine ∧ LcI H2 D (fun i => ((xs.take i).filter p).map f) (k + 1) (upd H5 D (.lst (acc ++ [y]))) else LcI H2 D (fun i => ((xs.take i).filter p).map f) (k + 1) H4 := by
  obtain ⟨acc, s3, hD, ra⟩ := h
  have e := take_filter_map (f := f) (p := p) hx
  have hall : noLs (((xs.take k).filter p).map f) = true := noLs_map fun y hy => hn y (List.mem_of_mem_take (List.mem_filter.mp hy).1)
  refine ht H3 (s0.trans s3) _ fun H4 s4 => ?_
  by_cases hp : p x = true
  · rw [hp]
    refine iteT (he hp H4 ((s0.trans s3).trans s4) _ fun y H5 s5 r => ⟨acc, s5 _ _ (s4 _ _ hD), ?_, ?_⟩)
    · rw [ra.len, List.length_map]
      refine small1000 (Nat.le_trans (List.length_filter_le _ _) (Nat.le_trans (List.length_take_le _ _) ?_))
      have := (List.getElem?_eq_some_iff.mp hx).1
      omega
    · refine LcI.grow n (s3.trans (s4.trans s5)) (s5 _ _ (s4 _ _ hD)) (ra.up (s4.trans s5)) r hall (hn x (List.mem_of_getElem? hx)) ?_
      show ((xs.take (k + 1)).filter p).map f = ((xs.take k).filter p).map f ++ [f x]
      rw [e, if_pos hp]
  · rw [Bool.not_eq_true] at hp
    rw [hp]
    refine iteF ⟨acc, s3.trans s4, s4 _ _ hD, ?_⟩
    show RepAll H4 acc (((xs.take (k + 1)).filter p).map f)
    rw [e, if_neg (by rw [hp]; decide), List.append_nil]
    exact ra.up s4
theorem y_lc (hs : Y ts σ H (.list (xs.map enc))) (hl : xs.length ≤ 1000) (hn : ∀ x ∈ xs, noL (f x) = true) (hw : ∀ v, wipe ((wipe σ vs).set i (some v)) vs = wipe σ vs)
    (hb : ∀ x ∈ xs, ∀ v H1, Same H H1 → Rep H1 v (enc x) → YT tt ((wipe σ vs).set i (some v)) H1 (p x) ∧ (p x = true → Y te ((wipe σ vs).set i (some v)) H1 (f x))) :
    Y (tLc (iList K ts) (gName i) tt te vs) σ H (.list ((xs.filter p).map f)) := fun H1 s Q q =>
  hs H1 s _ fun v H2 s2 r => by
    obtain ⟨a, ys, rfl, h1, h2⟩ := r.toLst
    have hlen : ys.length = xs.length := by rw [h2.len, List.length_map]
    refine ⟨a, rfl, ⟨ys, SqL.of h1⟩, fun D nD => lc_list (xs := ys) (LcI H2 D fun k => ((xs.take k).filter p).map f) (LcI.start nD rfl) (fun k H3 _ ⟨_, s3, _⟩ => s3.seq (SqL.of h1)) (fun k y H3 hy h => ?_) fun H3 ⟨acc, s3, hD, ra⟩ => ?_⟩
    · have hk : k < xs.length := by rw [← hlen]; exact (List.getElem?_eq_some_iff.mp hy).1
      have hx : xs[k]? = some xs[k] := List.getElem?_eq_getElem hk
      obtain ⟨u, e1, e2⟩ := RepAll.get h2 (i := k) (d := enc xs[k]) (by rw [List.getElem?_map, hx]; rfl)
      rw [hy] at e1
      cases e1
      obtain ⟨b1, b2⟩ := hb xs[k] (List.getElem_mem hk) y H2 (s.trans s2) e2
      exact ⟨hw y, lc_turn hx nD (Same.refl H2) h hl hn b1 b2⟩
    · simp only [hlen, List.take_length] at ra
      exact q _ H3 (s2.trans s3) (.lst hD ra)
theorem y_lcT (hs : Y ts σ H (.tuple (xs.map enc))) (hl : xs.length ≤ 1000) (hn : ∀ x ∈ xs, noL (f x) = true) (hw : ∀ v, wipe ((wipe σ vs).set i (some v)) vs = wipe σ vs)
    (hb : ∀ x ∈ xs, ∀ v H1, Same H H1 → Rep H1 v (enc x) → YT tt ((wipe σ vs).set i (some v)) H1 (p x) ∧ (p x = true → Y te ((wipe σ vs).set i (some v)) H1 (f x))) :
    Y (tLc (iTup K ts) (gName i) tt te vs) σ H (.list ((xs.filter p).map f)) := fun H1 s Q q =>
  hs H1 s _ fun v H2 s2 r => by
    obtain ⟨a, o, ys, rfl, h1, h0, h2⟩ := r.toTup
    have hlen : ys.length = xs.length := by rw [h2.len, List.length_map]
    refine ⟨a, rfl, ⟨ys, sqF h1⟩, fun D nD => lc_tup (xs := ys) (LcI H2 D fun k => ((xs.take k).filter p).map f) (LcI.start nD rfl) (fun k H3 _ ⟨_, s3, _⟩ => sqF (s3 _ _ h1)) (fun k y H3 hy h => ?_) fun H3 ⟨acc, s3, hD, ra⟩ => ?_⟩
    · have hk : k < xs.length := by rw [← hlen]; exact (List.getElem?_eq_some_iff.mp hy).1
      have hx : xs[k]? = some xs[k] := List.getElem?_eq_getElem hk
      obtain ⟨u, e1, e2⟩ := RepAll.get h2 (i := k) (d := enc xs[k]) (by rw [List.getElem?_map, hx]; rfl)
      rw [hy] at e1
      cases e1
      obtain ⟨b1, b2⟩ := hb xs[k] (List.getElem_mem hk) y H2 (s.trans s2) e2
      exact ⟨hw y, lc_turn hx nD (Same.refl H2) h hl hn b1 b2⟩
    · simp only [hlen, List.take_length] at ra
      exact q _ H3 (s2.trans s3) (.lst hD ra)
/-- over range(n) -/
theorem y_lcR {ta : TA} {n : Nat} {f : Nat → PyData} {p : Nat → Bool} (hs : YA ta σ H [dN n]) (hl : n ≤ 1000) (hn : ∀ x, x < n → noL (f x) = true) (hw : ∀ v, wipe ((wipe σ vs).set i (some v)) vs = wipe σ vs)
    (hb : ∀ x, x < n → ∀ H1, Same H H1 → YT tt ((wipe σ vs).set i (some (.int (x : Int)))) H1 (p x) ∧ (p x = true → Y te ((wipe σ vs).set i (some (.int (x : Int)))) H1 (f x))) :
    Y (tLc (iRng1 ta) (gName i) tt te vs) σ H (.list (((List.range n).filter p).map f)) := fun H1 s Q q =>
  hs H1 s _ fun ws H2 s2 r => by
    obtain ⟨w, rfl, rw⟩ := r.one
    refine ⟨(n : Int), by rw [rw.toInt], by omega, by omega, fun D nD => lc_range (lo := 0) (n := n) (LcI H2 D fun k => (((List.range n).take k).filter p).map f) (LcI.start nD rfl) (fun k H3 hk h => ?_) fun H3 ⟨acc, s3, hD, ra⟩ => ?_⟩
    · have hx : (List.range n)[k]? = some k := List.getElem?_range hk
      obtain ⟨b1, b2⟩ := hb k hk H2 (s.trans s2)
      rw [Int.zero_add]
      exact ⟨hw _, lc_turn hx nD (Same.refl H2) h (by rw [List.length_range]; exact hl) (fun x hx => hn x (List.mem_range.mp hx)) b1 b2⟩
    · have el : (List.range n).take n = List.range n := List.take_of_length_le (by rw [List.length_range]; exact Nat.le_refl _)
      simp only [el] at ra
      exact q _ H3 (s2.trans s3) (.lst hD ra)
end
/-! ### defs that hand on data -/
def PureR (R : List PyData → PyData → Prop) : Sp := fun vs H Q _ => ∃ ds d, RepAll H vs ds ∧ R ds d ∧ ∀ v H', Same H H' → Rep H' v d → Q v H'
theorem y_call {R : List PyData → PyData → Prop} {t : TA} {ds : List PyData} {E : XK} (h : YA t σ H ds) (hr : R ds d) : Y (tCall (PureR R) [] E t) σ H d := fun H1 s Q q =>
  h H1 s _ fun vs H2 s2 r => by
    show PureR R (vs ++ []) H2 Q E
    rw [List.append_nil]
    exact ⟨ds, d, r, hr, fun v H3 s3 rv => q v H3 (s2.trans s3) rv⟩
end
end CD
set_option Elab.async false
set_option linter.all false
set_option maxRecDepth 100000
set_option maxHeartbeats 4000000
namespace CD
open PySem PySem.Spec L2
open PyProof.Rows hiding St
section
variable {prog : Program} {w : World} {A : Around} {E : Value → Shared → Prop} {s : Shared}
/-- what list(..) and sorted(..) gather of a tuple -/
theorem col_tup {t : Addr} {vs : List Value} {Q : List Value → Shared → Prop} (ht : IsTup s.heap t vs.toArray) (hz : vs.length ≤ sizeLine)
    (q : Q vs { s with heap := (s.heap.push (seqObj "list" #[] 0)).update s.heap.objs.size (Obj.mapSeq (· ++ vs.toArray)) }) : wpAny (model prog w) A (collect (.ref t)) Q E s := by
  obtain ⟨o, e1, e2, k, e3⟩ := ht
  have e1' : (s.heap.push (seqObj "list" #[] 0)).get? t = some o := Heap.get?_push_of_some _ e1
  have e4 : (s.heap.push (seqObj "list" #[] 0)).get? s.heap.objs.size = some (seqObj "list" #[] 0) := Heap.get?_push_size _ rfl
  unfold collect
  refine wpAny_bind (wpAny_runValue (codeAny_builtin entry_proto_collect' (wpAny_bind (wpAny_newList (wpAny_pure ⟨Code.quiet_builtin _ (by decide +kernel), codeAny_builtin entry_list_iadd' ?_⟩)))))
  show wpAny _ _ (Builtin.List.listExtendWith (.ref s.heap.objs.size) (.ref t) (.ref s.heap.objs.size)) _ _ { s with heap := s.heap.push (seqObj "list" #[] 0) }
  unfold Builtin.List.listExtendWith
  refine wpAny_bind (wpAny_typeOf (T := "tuple") ⟨o, e1', e2⟩ ?_)
  have q1 : (Value.type "tuple" == Value.type "tuple") = true := by rfl
  rw [if_pos (by rw [q1]; simp)]
  refine wpAny_bind (listItems_at e1' e3 (wpAny_bind (listItems_at (xs := #[]) (n := 0) e4 rfl ?_)))
  rw [if_neg (by simp)]
  refine wpAny_bind (listUpdate_at (xs := #[]) (n := 0) e4 rfl ?_ (Nat.zero_le _) (by show (#[] ++ vs.toArray).size ≤ sizeLine + 1; simp only [Array.size_append, List.size_toArray, List.length_nil]; omega))
  refine wpAny_pure ?_
  refine wpAny_bind (wpAny_load (get?_update_seq e4 _) ?_)
  have q2 : ((#[] : Array Value) ++ vs.toArray).toList = vs := by simp
  show wpAny _ _ (pure ((#[] : Array Value) ++ vs.toArray).toList) Q E _
  rw [q2]
  exact wpAny_pure q
/-- sorted(..) of what is gathered as vs, in a heap s' -/
theorem sorted_col {β : Type} {enc : β → PyData} {R : Value → β → Prop} {v : Value} {Q : Value → Shared → Prop} (P : Shared → List Value → Prop)
    (hcol : ∀ Q' : List Value → Shared → Prop, (∀ s' vs, P s' vs → Q' vs s') → wpAny (model prog w) A.in1 (collect v) Q' E s)
    (hP : ∀ s' vs, P s' vs → ∃ bs : List β, PySem.W.EachIs R vs bs ∧ PySem.W.EachIs (fun v b => ∃ as, Reads (s'.heap.push (seqObj "list" vs.toArray 0)) v (enc b) as ∧ s'.heap.objs.size ∉ as) vs bs ∧ PySem.W.AllAlike (bs.map enc) ∧ PySem.W.Sortable (bs.map enc) ∧ bs.length ≤ 1000 ∧
      (∀ b, b ∈ bs → A.units + 3 + (enc b).depth < cLine) ∧ ∀ out : List Value, out.length = bs.length → PySem.W.EachIs R out (bs.mergeSort (PySem.W.dataLe false enc)) →
        Q (.ref s'.heap.objs.size) { s' with heap := sortedHeap (s'.heap.push (seqObj "list" vs.toArray 0)) s'.heap.objs.size vs out.toArray }) :
    wpAny (model prog w) A (call (.builtin "sorted") [v]) Q E s := by
  refine Calls.call_function_entry kind_sorted plain_sorted entry_sorted (args_sorted1 _) ?_
  unfold Builtin.«sorted»
  refine wpAny_bind (m := checkCount "sorted" 1 1 _) (wpAny_pure (wpAny_bind (hcol _ fun s' vs p => ?_)))
  obtain ⟨bs, e1, e2, e3, e4, e5, e6, e7⟩ := hP s' vs p
  have hl : vs.length = bs.length := e1.length
  refine wpAny_bind (wpAny_newList ?_ (by rw [sizeLine_eq]; omega))
  have ho : (s'.heap.push (seqObj "list" vs.toArray 0)).get? s'.heap.objs.size = some (seqObj "list" vs.toArray 0) := Heap.get?_push_size _ rfl
  refine wpAny_bind (wpAny_holding (PySem.W.list_sort_data (s := { s' with heap := s'.heap.push (seqObj "list" vs.toArray 0) }) ho e1 e2 e3 e4 (by rw [sizeLine_eq]; omega) (fun b hb => ?_) fun out h1 h2 => ?_))
  · have := e6 b hb
    show A.in1.units + 1 + (enc b).depth < cLine
    rw [show A.in1.units = A.units + 1 from rfl]
    omega
  · exact wpAny_pure ⟨_, rfl, e7 out h1 h2⟩
end
end CD
set_option Elab.async false
set_option linter.all false
set_option maxRecDepth 100000
set_option maxHeartbeats 4000000
namespace CD
open PySem PySem.Spec L2
open PyProof.Rows hiding St
/-! ### sorted of a tuple of numbers -/
theorem each_ints : ∀ {us : List Value} {ns : List Int}, IntsAre us ns → PySem.W.EachIs (fun v (i : Int) => ∃ t, v = Value.int i t) us ns
  | _, _, .nil => .nil
  | _, _, .cons n t r => .cons ⟨t, rfl⟩ (each_ints r)
theorem ints_each : ∀ {us : List Value} {ns : List Int}, PySem.W.EachIs (fun v (i : Int) => ∃ t, v = Value.int i t) us ns → IntsAre us ns
  | _, _, .nil => .nil
  | _, _, .cons ⟨t, e⟩ r => by rw [e]; exact .cons _ t (ints_each r)
def rSrtT (K : PySem.W.Frag) : List V → Hp → VK → Prop := fun vs H Q => ∃ (a : Addr) (ns : List Int), vs = [V.ref a] ∧ SqT K H a (ns.map V.int) ∧ ns.length ≤ 1000 ∧
  ∀ (ns' : List Int) (p : Addr), ns'.Perm ns → ns'.Pairwise (· ≤ ·) → H p = none → Q (.ref p) (upd H p (.lst (ns'.map V.int)))
section
variable {X : Cx}
theorem cr_srtT (hr : X.A.units + 64 < cLine) : CallR X (.builtin "sorted") (rSrtT X.K) := by
  intro pins s σ H vs us Q I r h
  obtain ⟨a, ns, rfl, ht, hl, q⟩ := h
  obtain ⟨its, rv, pt, hz⟩ := I.tuple ht
  rw [Vals.ref1 r]
  have hi := rv.ints
  have hlen : its.length = ns.length := by rw [← rv.length, List.length_map]
  refine sorted_col (β := Int) (enc := .int) (R := fun v i => ∃ t, v = Value.int i t)
    (fun s' vs => vs = its ∧ s' = { s with heap := (s.heap.push (seqObj "list" #[] 0)).update s.heap.objs.size (Obj.mapSeq (· ++ its.toArray)) })
    (fun Q' q' => col_tup pt (by rw [hlen]; exact le1000 hl) (q' _ _ ⟨rfl, rfl⟩)) ?_
  rintro s' vs ⟨rfl, rfl⟩
  refine ⟨ns, each_ints hi, (each_ints hi).mono fun v i ⟨t, e⟩ => ⟨[], by rw [e]; exact .int _ _, by simp⟩, PySem.W.AllAlike.of fun _ _ => by simp [PySem.W.alike], PySem.W.Sortable.others fun _ => ⟨(nomatch ·), fun _ => (nomatch ·)⟩, hl, fun b _ => ?_, fun out h1 h2 => ?_⟩
  · have : (PyData.int b).depth = 0 := by simp [PyData.depth]
    rw [this]
    omega
  · dsimp only
    have hs1 : ((s.heap.push (seqObj "list" #[] 0)).update s.heap.objs.size (Obj.mapSeq (· ++ vs.toArray))).objs.size = s.heap.objs.size + 1 := by
      rw [Heap.size_update, size_push']
    generalize hh : (s.heap.push (seqObj "list" #[] 0)).update s.heap.objs.size (Obj.mapSeq (· ++ vs.toArray)) = h1 at hs1 ⊢
    have k1 : ∀ b u, s.heap.get? b = some u → h1.get? b = some u := fun b u e => by
      rw [← hh]
      exact (Heap.get?_update_other _ _ (Nat.ne_of_gt (Heap.lt_size e))).trans (Heap.get?_push_of_some _ e)
    have ho : (h1.push (seqObj "list" vs.toArray 0)).get? h1.objs.size = some (seqObj "list" vs.toArray 0) := Heap.get?_push_size _ rfl
    obtain ⟨ep, he⟩ := sortedHeap_at (vs := vs) (out := out.toArray) ho
    have k2 : ∀ b u, s.heap.get? b = some u → (sortedHeap (h1.push (seqObj "list" vs.toArray 0)) h1.objs.size vs out.toArray).get? b = some u := fun b u e => by
      have e1 := k1 b u e
      have lt := Heap.lt_size e1
      rw [sortedHeap_old (Nat.ne_of_lt lt) (by rw [size_push']; exact Nat.lt_succ_of_lt lt)]
      exact Heap.get?_push_of_some _ e1
    have pm := List.mergeSort_perm ns (PySem.W.dataLe false PyData.int)
    have pw : (ns.mergeSort (PySem.W.dataLe false PyData.int)).Pairwise (· ≤ ·) := by
      rw [PySem.W.dataLe_int fun i : Int => i]
      refine (List.pairwise_mergeSort (le := fun a b : Int => decide (a ≤ b)) (fun a b c h1 h2 => ?_) (fun a b => ?_) ns).imp fun h => of_decide_eq_true h
      · exact decide_eq_true (Int.le_trans (of_decide_eq_true h1) (of_decide_eq_true h2))
      · rw [Bool.or_eq_true, decide_eq_true_eq, decide_eq_true_eq]; omega
    have le : s.heap.objs.size ≤ h1.objs.size := by omega
    refine ⟨.ref h1.objs.size, _, I.laid (t' := s.toks) (o := .lst ((ns.mergeSort (PySem.W.dataLe false PyData.int)).map V.int)) k2 le ⟨?_, out, ep, vals_of_ints (ints_each h2), he⟩, rfl, q _ _ pm pw (I.hok.fresh le)⟩
    rw [List.length_map, pm.length_eq]
    exact le1000 hl
/-! ### index of a number in a tuple -/
theorem mt_tidx : MtR X "tuple.index" (fun x xs H Q => ∃ p, ∃ ys : List Int, ∃ z, x = .ref p ∧ xs = [.int z] ∧ SqT X.K H p (ys.map V.int) ∧ z ∈ ys ∧ Q (.int (ys.idxOf z : Nat)) H) := by
  intro pins s σ H x xs v us Q I rx rs h
  obtain ⟨p, ys, z, rfl, rfl, hq, hz, q⟩ := h
  cases rx
  obtain ⟨u, rfl, t, rfl⟩ := vals1 rs
  obtain ⟨its, r, pl, _⟩ := I.tuple hq
  exact SeqAt.tuple_index_ints pl r.ints hz ⟨V.int (ys.idxOf z : Nat), H, I.tok _, ⟨_, rfl⟩, q⟩
/-! ### xs[i] op= e -/
def rGetL (K : PySem.W.Frag) : V → V → Hp → VK → Prop := fun o i H Q => ∃ p xs, ∃ k : Nat, ∃ v, o = .ref p ∧ i = .int (k : Int) ∧ SqL K H p xs ∧ xs[k]? = some v ∧ Q v H
theorem pget_list : PGet X (rGetL X.K) := by
  intro pins s σ H o i ov iv Q I ro ri h
  obtain ⟨p, xs, k, v, rfl, rfl, hq, hv, q⟩ := h
  cases ro
  obtain ⟨t, rfl⟩ := ri
  obtain ⟨its, r, pl, hz⟩ := I.list hq
  obtain ⟨u, hu, ru⟩ := r.get hv
  have hk : k < xs.length := (List.getElem?_eq_some_iff.mp hv).1
  have hn := line63
  exact wpAny_getItem_list pl.isList (by omega) (by omega) (x := u) (by simpa using hu) ⟨v, H, I, ru, q⟩
/-! ### enumerate of a tuple -/
theorem meets_enum1 {v : Value} {o : Obj} {P : Heap → Prop} (B : Begins v o P) :
    Meets (Builtin.«enumerate.__new__» ⟨[.type "enumerate", v], []⟩) (fun _ R s => P s.heap ∧
      R (.ok (.ret (.ref (s.heap.push o).objs.size))) { s with heap := (s.heap.push o).push { cls := .type "enumerate", data := .fields #[.none, .bool false, .ref s.heap.objs.size, rawInt 0, .none, .none] } }) :=
  .of_wp fun prog w A R s ⟨h1, h⟩ => by
    obtain ⟨hp, g, d, tk, os⟩ := s
    have su := sub_enumerate
    have go : ∀ {A' : Around} {E : Value → Shared → Prop} {Q : Value → Shared → Prop}, Q (.ref hp.objs.size) ⟨hp.push o, g, d, tk, os⟩ → wpAny (model prog w) A' (pyIter v) Q E ⟨hp, g, d, tk, os⟩ := fun q => B.iter prog w _ _ ⟨hp, g, d, tk, os⟩ _ h1 q
    wp_walk using go
    refine wpAny_stack_any fun st => wpAny_pure ?_
    split
    · rename_i c _ _ _ _ _
      cases (c == Value.type "enumerate") <;> (wp_walk using go; exact ⟨_, rfl, h⟩)
    · wp_walk using go
      exact ⟨_, rfl, h⟩
theorem enum1 {prog : Program} {w : World} {A : Around} {E : Value → Shared → Prop} {s : Shared} {v : Value} {o : Obj} {P : Heap → Prop} {Q : Value → Shared → Prop} (B : Begins v o P) (h1 : P s.heap)
    (h : ∀ h', IsEnum h' (s.heap.objs.size + 1) s.heap.objs.size 0 .none → h'.get? s.heap.objs.size = some o → h'.objs.size = s.heap.objs.size + 2 → (∀ b u, s.heap.get? b = some u → h'.get? b = some u) → Q (.ref (s.heap.objs.size + 1)) { s with heap := h' }) :
    wpAny (model prog w) A (call (.type "enumerate") [v]) Q E s := by
  refine callType_new F.called_enumerate (by decide) (F.typeCall_enumerate_1 _) (F.newCall_enumerate_1 _) (fun obj => F.args_object_init_2 obj _) F.entry_enumerate_new (meets_enum1 B) ⟨h1, ?_⟩
  have z1 : (s.heap.push o).objs.size = s.heap.objs.size + 1 := Heap.size_push ..
  have e1 := Heap.get?_push_size (s.heap.push o) (o := { cls := .type "enumerate", data := .fields #[.none, .bool false, .ref s.heap.objs.size, rawInt 0, .none, .none] }) rfl
  rw [z1] at e1
  show _ ∧ _
  rw [z1]
  exact ⟨⟨_, e1, rfl⟩, h _ e1 (Heap.get?_push_of_some _ (Heap.get?_push_size _ B.free)) (by rw [Heap.size_push, z1]) fun b u q => Heap.get?_push_of_some _ (Heap.get?_push_of_some _ q)⟩
/-- the items of the tuple at a, each in a new pair with its number -/
def ItEt (K : PySem.W.Frag) (a : Addr) : It :=
  ⟨fun i H => ∃ (xs : List V) (x : V), SqT K H a xs ∧ xs[i]? = some x, fun i H v H' => ∃ T x, v = .ref T ∧ H T = none ∧ H' = upd H T (.tup [.int (i : Nat), x]) ∧ ∀ xs, SqT K H a xs → xs[i]? = some x, fun i H => ∃ xs : List V, SqT K H a xs ∧ xs.length ≤ i⟩
theorem enum_apart {h : Heap} {e it a : Addr} {c : Int} {old : Value} {i : Nat} {its : Array Value} (he : IsEnum h e it c old) (hit : h.IsTupleIter it a i) (pt : IsTup h a its) : e ≠ a ∧ a ≠ it := by
  obtain ⟨ot, h1, h2, _⟩ := pt
  constructor
  · rintro rfl
    rw [he] at h1
    rw [← Option.some.inj h1] at h2
    injection h2 with q
    exact absurd q (by decide)
  · rintro rfl
    obtain ⟨o2, q1, q2, _⟩ := hit
    rw [h1] at q1
    rw [← Option.some.inj q1, h2] at q2
    injection q2 with q
    exact absurd q (by decide)
theorem enumT_end {prog : Program} {w : World} {A : Around} {E : Value → Shared → Prop} {s : Shared} {e it t : Addr} {c : Int} {i : Nat} {old : Value} {its : Array Value} {Q : Option Value → Shared → Prop} (hh : A.handled = none) (he : IsEnum s.heap e it c old) (hit : s.heap.IsTupleIter it t i) (ht : IsTup s.heap t its) (hx : its[i]? = none)
    (hQ : ∀ h', Heap.ExtBut it s.heap h' → Q none { s with heap := h' }) : wpAny (model prog w) A (pyNext (.ref e)) Q E s := by
  have hT : s.TypeIs (.ref e) "enumerate" := ⟨_, he, rfl⟩
  have hh1 : A.in1.in1.handled = none := hh
  unfold pyNext
  refine wpAny_bind (wpAny_attempt (wpAny_callSpecial?_slot (name := Str.ofString "__next__") hT F.slot_enumerate_next (wpAny_call_entry F.slot_enumerate_next hT F.entry_enumerate_next ?_ (F.args_enumerate_next_1 _))))
  show wpAny _ _ (field (.ref e) 2 >>= _) _ _ _
  refine wpAny_bind (wpAny_field he rfl (x := .ref it) rfl (wpAny_bind (wpAny_nextOf_tuple_end hh hit ht hx fun h' x k ⟨o, ho, hc⟩ => ?_)))
  refine wpAny_bind (wpAny_isInstance (T := "StopIteration") (b := true) ⟨o, ho, hc⟩ isSubtype_stop (wpAny_pure (hQ _ k)))
theorem turn_enumT {P : Program} {w : World} {K : PySem.W.Frag} {elts : List Expr} {kk : Nat} {tpos : Pos} (a e it : Addr) :
    Turn P w K (.Tuple elts kk tpos) (ItEt K a) [e, it] e (fun i h => (∃ old, IsEnum h e it ((i : Nat) : Int) old) ∧ h.IsTupleIter it a i ∧ e ≠ it) where
  mem := List.mem_cons_self
  obj := fun i h st b hb => by
    obtain ⟨⟨old, he⟩, ⟨o, ho, hc, hd⟩, _⟩ := st
    rcases List.mem_cons.mp hb with z | z
    · rw [z]; exact ⟨_, he, fun v q => nomatch q⟩
    · rw [List.mem_singleton.mp z]; exact ⟨o, ho, fun v q => by rw [hd] at q; cases q⟩
  keep := fun i h h' st k => let ⟨⟨old, he⟩, hi, hne⟩ := st; ⟨⟨old, k e (by simp) _ he⟩, hi.at fun o q => k it (by simp) o q, hne⟩
  item := by
    intro X hP hw hK hc i pins s σ H E I hf st hg
    subst hP hw hK
    obtain ⟨⟨old, he⟩, hit, hne⟩ := st
    obtain ⟨xs, x, hq, hx⟩ := hg
    obtain ⟨its, rv, pt, hz⟩ := I.tuple hq
    obtain ⟨ea, ia⟩ := enum_apart he hit pt
    obtain ⟨u, hu, ru⟩ := rv.get hx
    have le1 : e < s.heap.objs.size := Heap.lt_size he
    have le2 : it < s.heap.objs.size := by obtain ⟨_, q, _⟩ := hit; exact Heap.lt_size q
    have hh : X.A.in1.handled = none := I.ok.hd hc
    have hi : i < its.toArray.size := by
      rw [List.size_toArray, ← rv.length]
      exact (List.getElem?_eq_some_iff.mp hx).1
    refine wpAny_pyNext_enum_itemD (Draws.tuple hh it a ia its.toArray) he ⟨hit, pt⟩ hi hne (by simp [hne, ea]) fun y h' tk hy ho st' hT hsz hk => ?_
    have hyu : y = u := by
      have q : its.toArray[i]? = some u := by simpa using hu
      exact Option.some.inj (hy.symm.trans q)
    subst hyu
    refine ⟨_, rfl, wpAny_letOwnedTupleGo_enum (s := { s with heap := h', toks := tk + 1 }) ho fun h'' he' sb => ?_⟩
    have sbe : ∀ b u, b ≠ e → h'.get? b = some u → h''.get? b = some u := fun b u z q => (sb.2 b z).trans q
    have hT2 := sbe _ _ (Nat.ne_of_gt le1) hT
    have new : ObjOk X.prog X.w (upd H s.heap.objs.size (.tup [.int (i : Nat), x])) h'' s.heap.objs.size (.tup [.int (i : Nat), x]) :=
      ⟨le1000 (by simp), [.int i tk, y], .cons ⟨_, rfl⟩ (.cons ru .nil), ⟨_, hT2, rfl, _, rfl⟩⟩
    have J := I.turnedNew (t' := tk + 1) (ch := [e, it]) (fun b ob hb q => by
      rw [List.mem_cons, List.mem_singleton, not_or] at hb
      exact sbe b ob hb.1 (hk b ob hb.1 hb.2 q)) hf (Nat.le_refl _) new
    refine ⟨.ref s.heap.objs.size, _, J, rfl, ⟨_, x, rfl, I.hok.fresh (Nat.le_refl _), rfl, fun ys hy => by rw [I.tuple_inj hy hq]; exact hx⟩, ⟨⟨y, ?_⟩, st'.1.at fun o q => sbe it o (Ne.symm hne) q, hne⟩, fun b hb => ?_⟩
    · have e1 : ((i + 1 : Nat) : Int) = (i : Int) + 1 := by omega
      rw [e1]; exact he'
    · have lb : b < s.heap.objs.size := by
        rcases List.mem_cons.mp hb with z | z
        · rw [z]; exact le1
        · rw [List.mem_singleton.mp z]; exact le2
      rw [upd_ne (Nat.ne_of_lt lb)]
      exact (hf b hb).1
  done := by
    intro X hP hw hK hc i pins s σ H E I hf st hg
    subst hP hw hK
    obtain ⟨⟨old, he⟩, hit, hne⟩ := st
    obtain ⟨xs, hq, hx⟩ := hg
    obtain ⟨its, rv, pt, hz⟩ := I.tuple hq
    obtain ⟨ea, ia⟩ := enum_apart he hit pt
    obtain ⟨f0, f1, f2, f3, f4, f5⟩ := hf it (by simp)
    have hh : X.A.handled = none := I.ok.hd hc
    have hl : its.toArray[i]? = none := by
      rw [List.getElem?_toArray, List.getElem?_eq_none_iff, ← rv.length]
      exact hx
    exact enumT_end hh he hit pt hl fun h' eb => ⟨rfl, I.turned (t' := s.toks) (fun b o hb q => eb b o hb q) f0 f1 f3 f4 f5⟩
  self := fun A i s Q E st h => let ⟨⟨_, he⟩, _⟩ := st; wpAny_pyIter_enum he h
end
def iEnumT (K : PySem.W.Frag) (ta : TA) : TI := fun σ H R => ta σ H fun vs H1 => ∃ a xs, vs = [.ref a] ∧ SqT K H1 a xs ∧ R (ItEt K a) H1
theorem pi_enumT {X : Cx} {e : Expr} {ta : TA} {p pos tpos : Pos} {elts : List Expr} {kk : Nat} (hg : Gl X "enumerate") (hm : X.mg "enumerate" = none) (ha : PA X [e] ta) (hs : starEach [e] X.env = [(false, eval e X.env)] := by rfl) :
    PI X (.Tuple elts kk tpos) (.Call (.Name "enumerate" p) [e] [] pos) (iEnumT X.K ta) := by
  refine ⟨fun pins s σ H R I h => Call_ (ld_blt I hg hm boot_enumerate (PyProof.Rows.callWith_type1 (thn (ha.run pos pins s σ H _ I h) fun us s1 ⟨vs, H1, I1, r1, a, xs, ex, hq, q⟩ => ?_) hs rfl))⟩
  subst ex
  obtain rfl := Vals.ref1 r1
  obtain ⟨its, rv, pt, hz⟩ := I1.tuple hq
  refine enum1 (begins_tuple a its.toArray) pt fun h' he hit hsz hk => wpAny_pyIter_enum he ?_
  refine ⟨s1.heap.objs.size + 1, [s1.heap.objs.size + 1, s1.heap.objs.size], _, _, H1, rfl, I1.kept (t' := s1.toks) hk, turn_enumT a (s1.heap.objs.size + 1) s1.heap.objs.size, ⟨⟨.none, he⟩, ⟨_, hit, rfl, rfl⟩, Nat.succ_ne_self _⟩, fun b hb => ?_, q⟩
  have le : s1.heap.objs.size ≤ b := by
    rcases List.mem_cons.mp hb with z | z
    · rw [z]; exact Nat.le_succ _
    · rw [List.mem_singleton.mp z]; exact Nat.le_refl _
  exact I1.fpOk le (I1.hok.fresh le)
end CD
set_option Elab.async false
set_option linter.all false
set_option maxRecDepth 100000
set_option maxHeartbeats 4000000
namespace CD
open PySem PySem.Spec L2
open PyProof.Rows hiding St
/-! ### data that may be compared, and their equality -/
def Shp (n : Nat) (d : PyData) : Prop := d.canLay0 = true ∧ d.depth ≤ n
theorem Shp.ok {n : Nat} {d : PyData} (h : Shp n d) (hn : n ≤ 64) : SeqAt.shaped d = true := by
  unfold SeqAt.shaped
  rw [h.1, decide_eq_true (Nat.le_trans h.2 hn)]
  rfl
theorem shp_int {n : Nat} {i : Int} : Shp n (.int i) := ⟨by simp [PyData.canLay0], by simp [PyData.depth]⟩
theorem shp_non {n : Nat} : Shp n .none := ⟨by simp [PyData.canLay0], by simp [PyData.depth]⟩
theorem shp_bl {n : Nat} {b : Bool} : Shp n (.bool b) := ⟨by simp [PyData.canLay0], by simp [PyData.depth]⟩
theorem shp_o {n : Nat} : ∀ o : Option Nat, Shp n (dO o)
  | none => shp_non
  | some _ => shp_int
theorem shp_all {n : Nat} : ∀ {ds : List PyData}, (∀ d ∈ ds, Shp n d) → PyData.canLayAll0 ds = true ∧ PyData.depthAll ds ≤ n
  | [], _ => ⟨by simp [PyData.canLayAll0], by simp [PyData.depthAll]⟩
  | d :: ds, h => by
    obtain ⟨a, b⟩ := h d List.mem_cons_self
    obtain ⟨c, e⟩ := shp_all fun x hx => h x (List.mem_cons_of_mem _ hx)
    refine ⟨?_, ?_⟩
    · rw [PyData.canLayAll0, a, c]; rfl
    · rw [PyData.depthAll]
      exact Nat.max_le.mpr ⟨b, e⟩
theorem shp_lst {n : Nat} {ds : List PyData} (h : ∀ d ∈ ds, Shp n d) : Shp (n + 1) (.list ds) := by
  obtain ⟨a, b⟩ := shp_all h
  exact ⟨by rw [PyData.canLay0]; exact a, by rw [PyData.depth]; omega⟩
theorem shp_tup {n : Nat} {ds : List PyData} (h : ∀ d ∈ ds, Shp n d) : Shp (n + 1) (.tuple ds) := by
  obtain ⟨a, b⟩ := shp_all h
  exact ⟨by rw [PyData.canLay0]; exact a, by rw [PyData.depth]; omega⟩
theorem shp_ns {n : Nat} (l : List Nat) : ∀ d ∈ dNs l, Shp n d := fun d hd => by
  obtain ⟨k, _, rfl⟩ := List.mem_map.mp hd
  exact shp_int
theorem ok_int {i : Int} : SeqAt.shaped (.int i) = true := (shp_int (n := 0)).ok (by decide)
theorem ok_non : SeqAt.shaped .none = true := (shp_non (n := 0)).ok (by decide)
theorem ok_o (o : Option Nat) : SeqAt.shaped (dO o) = true := (shp_o (n := 0) o).ok (by decide)
theorem ok_ln (l : List Nat) : SeqAt.shaped (.list (dNs l)) = true := (shp_lst (n := 0) (shp_ns l)).ok (by decide)
theorem ok_tn (l : List Nat) : SeqAt.shaped (.tuple (dNs l)) = true := (shp_tup (n := 0) (shp_ns l)).ok (by decide)
theorem ok_nil : SeqAt.shaped (.list []) = true := ok_ln []
theorem ev_nn (a b : Nat) : PyData.eqv (dN a) (dN b) = decide (a = b) := by
  show ((a : Int) == (b : Int)) = _
  rw [Bool.eq_iff_iff, beq_iff_eq, decide_eq_true_eq]
  omega
theorem ev_on : ∀ o : Option Nat, PyData.eqv (dO o) .none = o.isNone
  | none => rfl
  | some _ => rfl
theorem ev_oo : ∀ o p : Option Nat, PyData.eqv (dO o) (dO p) = decide (o = p)
  | none, none => rfl
  | none, some _ => rfl
  | some _, none => rfl
  | some a, some b => (ev_nn a b).trans (by rw [decide_eq_decide]; exact ⟨fun h => by rw [h], fun h => Option.some.inj h⟩)
theorem ev_all : ∀ a b : List Nat, PyData.eqvAll (dNs a) (dNs b) = decide (a = b)
  | [], [] => rfl
  | [], _ :: _ => rfl
  | _ :: _, [] => rfl
  | x :: a, y :: b => by
    show (PyData.eqv (dN x) (dN y) && PyData.eqvAll (dNs a) (dNs b)) = _
    rw [ev_nn, ev_all a b]
    by_cases h : x = y <;> by_cases h' : a = b <;> simp [h, h']
theorem ev_ll (a b : List Nat) : PyData.eqv (.list (dNs a)) (.list (dNs b)) = decide (a = b) := ev_all a b
theorem ev_tt (a b : List Nat) : PyData.eqv (.tuple (dNs a)) (.tuple (dNs b)) = decide (a = b) := ev_all a b
/-! ### sorted lists are one -/
theorem sorted_one : ∀ {a b : List Int}, a.Perm b → a.Pairwise (· ≤ ·) → b.Pairwise (· ≤ ·) → a = b
  | [], b, h, _, _ => (List.nil_perm.mp h).symm
  | x :: a, [], h, _, _ => absurd h.length_eq (by simp)
  | x :: a, y :: b, h, h1, h2 => by
    obtain ⟨p1, p2⟩ := List.pairwise_cons.mp h1
    obtain ⟨q1, q2⟩ := List.pairwise_cons.mp h2
    have e : x = y := by
      have m1 : x ∈ y :: b := h.mem_iff.mp List.mem_cons_self
      have m2 : y ∈ x :: a := h.mem_iff.mpr List.mem_cons_self
      rcases List.mem_cons.mp m1 with z | z
      · exact z
      · rcases List.mem_cons.mp m2 with w | w
        · exact w.symm
        · exact Int.le_antisymm (p1 y w) (q1 x z)
    subst e
    rw [sorted_one ((List.perm_cons x).mp h) p2 q2]
abbrev iNs (l : List Nat) : List Int := l.map fun n : Nat => (n : Int)
theorem iNs_V (l : List Nat) : (l.map fun n : Nat => V.int (n : Int)) = (iNs l).map V.int := by rw [List.map_map]; rfl
theorem sorted_ns {ns' : List Int} {l m : List Nat} (h : ns'.Perm (iNs l)) (hs : ns'.Pairwise (· ≤ ·)) (hm : m.Perm l) (ms : m.Pairwise (· ≤ ·)) : ns' = iNs m :=
  sorted_one (h.trans (hm.map _).symm) hs (List.pairwise_map.mpr (ms.imp fun h => by omega))
theorem idx_iNs (k : Nat) : ∀ l : List Nat, (iNs l).idxOf (k : Int) = l.idxOf k
  | [] => rfl
  | a :: l => by
    show List.idxOf (k : Int) ((a : Int) :: iNs l) = _
    rw [List.idxOf_cons, List.idxOf_cons, idx_iNs k l]
    have : ((a : Int) == (k : Int)) = (a == k) := by rw [Bool.eq_iff_iff, beq_iff_eq, beq_iff_eq]; omega
    rw [this]
section
variable {t : TE} {tt : TT} {ta tb : TE} {σ : L2.St} {H H' : Hp} {d e : PyData} {K : PySem.W.Frag}
/-- sorted -/
theorem y_srtT {l m : List Nat} (h : Y t σ H (.tuple (dNs l))) (hm : m.Perm l) (ms : m.Pairwise (· ≤ ·)) (hl : l.length ≤ 1000) : Y (tCB (rSrtT K) (tCons t tNil)) σ H (.list (dNs m)) := fun H1 s Q q =>
  h H1 s _ fun v H2 s2 r => by
    obtain ⟨a, o, xs, rfl, h1, h0, h2⟩ := r.toTup
    rw [repAll_n h2, iNs_V] at h1
    refine ⟨a, iNs l, rfl, sqF h1, by rw [List.length_map]; exact hl, fun ns' p e1 e2 np => q _ _ (s2.trans (same_new np)) (.lst upd_same ?_)⟩
    rw [sorted_ns e1 e2 hm ms, ← iNs_V]
    exact repAll_of_n m
theorem y_srtL {l m : List Nat} (h : Y t σ H (.list (dNs l))) (hm : m.Perm l) (ms : m.Pairwise (· ≤ ·)) : Y (tCB (rSortedI K) (tCons t tNil)) σ H (.list (dNs m)) := fun H1 s Q q =>
  h H1 s _ fun v H2 s2 r => by
    obtain ⟨a, xs, rfl, h1, h2⟩ := r.toLst
    rw [repAll_n h2, iNs_V] at h1
    refine ⟨a, iNs l, rfl, SqL.of h1, fun ns' p e1 e2 np => q _ _ (s2.trans (same_new np)) (.lst upd_same ?_)⟩
    rw [sorted_ns e1 e2 hm ms, ← iNs_V]
    exact repAll_of_n m
/-- index in a tuple -/
theorem y_idx {l : List Nat} {k : Nat} {ta : TA} (h : Y t σ H (.tuple (dNs l))) (ha : YA ta σ H [dN k]) (hk : k ∈ l) :
    Y (tBMF (fun x xs H Q => ∃ p, ∃ ys : List Int, ∃ z, x = .ref p ∧ xs = [.int z] ∧ SqT K H p (ys.map V.int) ∧ z ∈ ys ∧ Q (.int (ys.idxOf z : Nat)) H) t ta) σ H (dN (l.idxOf k)) := fun H1 s Q q =>
  h H1 s _ fun v H2 s2 r => by
    obtain ⟨a, o, xs, rfl, h1, h0, h2⟩ := r.toTup
    refine ⟨⟨a, o, xs, rfl, h1, h0⟩, ha H2 (s.trans s2) _ fun vs H3 s3 r3 => ?_⟩
    obtain ⟨w, rfl, rw3⟩ := r3.one
    rw [repAll_n h2, iNs_V] at h1
    refine ⟨a, iNs l, (k : Int), rfl, by rw [rw3.toInt], sqF (s3 _ _ h1), List.mem_map.mpr ⟨k, hk, rfl⟩, q _ _ (s2.trans s3) ?_⟩
    rw [idx_iNs]
    exact .int _
/-- a comprehension over enumerate(xs) that keeps nothing -/
theorem y_lcE {α : Type} {enc : α → PyData} {xs : List α} {i j : Nat} {vs : List Nat} {ta : TA} {te : TE} (hs : YA ta σ H [.list (xs.map enc)])
    (hw : ∀ v u, wipe (((wipe σ vs).set i (some v)).set j (some u)) vs = wipe σ vs)
    (hb : ∀ (k : Nat) x, xs[k]? = some x → ∀ v H1, Same H H1 → Rep H1 v (enc x) → YT tt (((wipe σ vs).set i (some (.int (k : Int)))).set j (some v)) H1 false) :
    Y (tLc (iEnum K ta) (gTup K 2 (gCons (gName i) (gCons (gName j) gNil))) tt te vs) σ H (.list []) := fun H1 s Q q =>
  hs H1 s _ fun ws H2 s2 r => by
    obtain ⟨w, rfl, rw⟩ := r.one
    obtain ⟨a, ys, rfl, h1, h2⟩ := rw.toLst
    have hlen : ys.length = xs.length := by rw [h2.len, List.length_map]
    refine ⟨a, ys, rfl, SqL.of h1, fun D nD => ⟨fun k m H3 => m = ys.length - k ∧ k ≤ ys.length ∧ Same H2 H3 ∧ H3 D = some (.lst []), ⟨_, rfl, Nat.zero_le _, same_new nD, upd_same⟩, ?_⟩⟩
    rintro k m H3 ⟨rfl, hk, s3, hD⟩
    have hq := s3.seq (K := K) (SqL.of h1)
    by_cases hlt : k < ys.length
    · have hx : xs[k]? = some xs[k] := List.getElem?_eq_getElem (by omega)
      obtain ⟨u, e1, e2⟩ := RepAll.get h2 (i := k) (d := enc xs[k]) (by rw [List.getElem?_map, hx]; rfl)
      refine .inr ⟨⟨ys, u, hq, e1⟩, fun H4 => Same H2 H4 ∧ H4 D = some (.lst []), fun H4 ⟨a1, a2⟩ => ⟨ys.length - (k + 1), by omega, rfl, hlt, a1, a2⟩, ?_⟩
      rintro x H4 ⟨T, z, rfl, nT, rfl, hz⟩
      have ez : z = u := Option.some.inj ((hz _ hq).symm.trans e1)
      subst ez
      have s4 : Same H2 (upd H3 T (.tup [.int (k : Nat), z])) := s3.trans (same_new nT)
      refine ⟨T, _, rfl, SqT.of upd_same, rfl, _, _, rfl, _, _, rfl, rfl, hw _ _, ?_⟩
      refine hb k xs[k] hx z H2 (s.trans s2) e2 _ s4 _ fun H5 s5 => iteF ⟨s4.trans s5, s5 _ _ ?_⟩
      rw [upd_ne (ne_of_none hD nT)]
      exact hD
    · exact .inl ⟨⟨ys, hq, by omega⟩, q _ _ (s2.trans s3) (.lst hD .nil)⟩
end
/-! ### for over enumerate -/
theorem for_enumT {K : PySem.W.Frag} {a : Addr} {xs : List V} {g : TG} {tb : TS} {D : Ends} {σ : L2.St} {H : Hp} (Pv : Nat → L2.St → Hp → Prop) (h0 : Pv 0 σ H) (hl : ∀ i σ H, i ≤ xs.length → Pv i σ H → SqT K H a xs)
    (hs : ∀ i x T σ H, xs[i]? = some x → Pv i σ H → H T = none → g (.ref T) σ (upd H T (.tup [.int (i : Nat), x])) fun σ2 H2 => tb { D with nx := Pv (i + 1), ct := Pv (i + 1), bk := D.nx } σ2 H2) (hd : ∀ σ H, Pv xs.length σ H → D.nx σ H) :
    ∃ W : Nat → Nat → L2.St → Hp → Prop, (∃ m, W 0 m σ H) ∧ ∀ i m σ H, W i m σ H →
      ((ItEt K a).stop i H ∧ D.nx σ H) ∨ ((ItEt K a).go i H ∧ ∃ N : L2.St → Hp → Prop, (∀ σ' H', N σ' H' → ∃ m', m' < m ∧ W (i + 1) m' σ' H') ∧ ∀ x H', (ItEt K a).yld i H x H' → g x σ H' fun σ2 H2 => tb { D with nx := N, ct := N, bk := D.nx } σ2 H2) := by
  refine ⟨fun i m σ H => m = xs.length - i ∧ i ≤ xs.length ∧ Pv i σ H, ⟨_, rfl, Nat.zero_le _, h0⟩, ?_⟩
  rintro i m σ H ⟨rfl, hi, p⟩
  have q := hl i σ H hi p
  by_cases hlt : i < xs.length
  · refine .inr ⟨⟨xs, xs[i], q, List.getElem?_eq_getElem hlt⟩, Pv (i + 1), fun σ' H' p' => ⟨xs.length - (i + 1), by omega, rfl, hlt, p'⟩, ?_⟩
    rintro x H' ⟨T, y, rfl, nT, rfl, hy⟩
    exact hs i y T σ H (hy _ q) p nT
  · have e : i = xs.length := by omega
    subst e
    exact .inl ⟨⟨xs, q, Nat.le_refl _⟩, hd σ H p⟩
theorem for_enumL {K : PySem.W.Frag} {a : Addr} {xs : List V} {g : TG} {tb : TS} {D : Ends} {σ : L2.St} {H : Hp} (Pv : Nat → L2.St → Hp → Prop) (h0 : Pv 0 σ H) (hl : ∀ i σ H, i ≤ xs.length → Pv i σ H → SqL K H a xs)
    (hs : ∀ i x T σ H, xs[i]? = some x → Pv i σ H → H T = none → g (.ref T) σ (upd H T (.tup [.int (i : Nat), x])) fun σ2 H2 => tb { D with nx := Pv (i + 1), ct := Pv (i + 1), bk := D.nx } σ2 H2) (hd : ∀ σ H, Pv xs.length σ H → D.nx σ H) :
    ∃ W : Nat → Nat → L2.St → Hp → Prop, (∃ m, W 0 m σ H) ∧ ∀ i m σ H, W i m σ H →
      ((Ite K a).stop i H ∧ D.nx σ H) ∨ ((Ite K a).go i H ∧ ∃ N : L2.St → Hp → Prop, (∀ σ' H', N σ' H' → ∃ m', m' < m ∧ W (i + 1) m' σ' H') ∧ ∀ x H', (Ite K a).yld i H x H' → g x σ H' fun σ2 H2 => tb { D with nx := N, ct := N, bk := D.nx } σ2 H2) := by
  refine ⟨fun i m σ H => m = xs.length - i ∧ i ≤ xs.length ∧ Pv i σ H, ⟨_, rfl, Nat.zero_le _, h0⟩, ?_⟩
  rintro i m σ H ⟨rfl, hi, p⟩
  have q := hl i σ H hi p
  by_cases hlt : i < xs.length
  · refine .inr ⟨⟨xs, xs[i], q, List.getElem?_eq_getElem hlt⟩, Pv (i + 1), fun σ' H' p' => ⟨xs.length - (i + 1), by omega, rfl, hlt, p'⟩, ?_⟩
    rintro x H' ⟨T, y, rfl, nT, rfl, hy⟩
    exact hs i y T σ H (hy _ q) p nT
  · have e : i = xs.length := by omega
    subst e
    exact .inl ⟨⟨xs, q, Nat.le_refl _⟩, hd σ H p⟩
/-- the pair is taken apart into two names -/
theorem gpair {K : PySem.W.Frag} {i j : Nat} {T : Addr} {x y : V} {σ : L2.St} {H : Hp} {Q : L2.St → Hp → Prop} (q : Q ((σ.set i (some x)).set j (some y)) (upd H T (.tup [x, y]))) :
    gTup K 2 (gCons (gName i) (gCons (gName j) gNil)) (.ref T) σ (upd H T (.tup [x, y])) Q := ⟨T, _, rfl, SqT.of upd_same, rfl, _, _, rfl, _, _, rfl, rfl, q⟩
/-- x *= e -/
theorem ip_mul {X : Cx} : PIp X .Mult fun x y H Q => ∃ i j, x = .int i ∧ y = .int j ∧ CMul i j ∧ Q (.int (i * j)) H := by
  rintro pins s σ H x y v u Q I r1 r2 ⟨i, j, rfl, rfl, c, q⟩
  obtain ⟨t, rfl⟩ := r1
  obtain ⟨t', rfl⟩ := r2
  exact imul_int ⟨.int _, H, I.tok _, ⟨_, rfl⟩, q⟩ c.ok
end CD
set_option Elab.async false
set_option linter.all false
set_option maxRecDepth 100000
set_option maxHeartbeats 4000000
namespace CD
open PySem PySem.Spec L2
open PyProof.Rows hiding St
def topS (i : Nat) : Stmt := PySem.Challenge.pw_countdoors_k80_whole_codes_of_orders.main.body.getD i (.Pass ⟨0, 0, 0, 0⟩)
/-- what the top has left of the names that the defs read -/
structure Top (mg : Str → Option Value) (tk : Tok) : Prop where
  len : mg "len" = none
  range : mg "range" = none
  list : mg "list" = none
  tuple : mg "tuple" = none
  int : mg "int" = none
  bool : mg "bool" = none
  isinstance : mg "isinstance" = none
  enumerate : mg "enumerate" = none
  sorted : mg "sorted" = none
  dict : mg "dict" = none
  set : mg "set" = none
  most : mg "MOST_DOORS" = some (.int 9 tk)
/-- a def of the text -/
structure Def (K : PySem.W.Frag) (mg : Str → Option Value) (x : Str) (st : Stmt) (ps : List Str) (f : Addr) (fd : FuncData) : Prop where
  F : Fun K x x st f fd
  b : Binds K fd ps []
  g : mg x = some (.ref f)
theorem yc {t : TE} {σ : L2.St} {H : Hp} {d e : PyData} (q : d = e) (y : Y t σ H d) : Y t σ H e := q ▸ y
theorem ytc {t : TT} {σ : L2.St} {H : Hp} {b c : Bool} (q : b = c) (y : YT t σ H b) : YT t σ H c := q ▸ y
section
variable {te : TE} {c : TT} {t u : TS} {σ : L2.St} {H : Hp} {d : PyData} {D : Ends} {i : Nat} {b : Bool}
theorem ret_go (y : Y te σ H d) (q : ∀ v H', Same H H' → Rep H' v d → D.rt v H') : tRet te D σ H := y.go q
theorem set_go (y : Y te σ H d) (q : ∀ v H', Same H H' → Rep H' v d → u D (σ.set i (some v)) H') : tSeq (tAsg te (gName i)) u D σ H := y.go q
theorem set1_go (y : Y te σ H d) (q : ∀ v H', Same H H' → Rep H' v d → D.nx (σ.set i (some v)) H') : tAsg te (gName i) D σ H := y.go q
theorem expr_go (y : Y te σ H d) (q : ∀ H', Same H H' → u D σ H') : tSeq (tDrop te) u D σ H := y.go fun _ H' s _ => q H' s
theorem if_no (y : YT c σ H false) (q : ∀ H', Same H H' → u D σ H') : tSeq (tIfS c t tNext) u D σ H := y.go fun H' s => iteF (q H' s)
theorem if1_no (y : YT c σ H false) (q : ∀ H', Same H H' → D.nx σ H') : tIfS c t tNext D σ H := y.go fun H' s => iteF (q H' s)
theorem if_go (y : YT c σ H b) (h1 : b = true → ∀ H', Same H H' → t D σ H') (h2 : b = false → ∀ H', Same H H' → u D σ H') : tIfS c t u D σ H := y.go fun H' s => by
  cases b with
  | true => exact iteT (h1 rfl H' s)
  | false => exact iteF (h2 rfl H' s)
theorem par_go {ta : TA} {j : Nat} {d1 d2 : PyData} (y : YA ta σ H [d1, d2]) (q : ∀ v w H', Same H H' → Rep H' v d1 → Rep H' w d2 → u D ((σ.set i (some v)).set j (some w)) H') : tSeq (tPar i j ta) u D σ H := y.go fun vs H' s r => by
  obtain ⟨v, w, rfl, r1, r2⟩ := r.two
  exact ⟨v, w, rfl, q v w H' s r1 r2⟩
end
abbrev rLenS (K : PySem.W.Frag) : List V → Hp → VK → Prop := fun xs H Q => ∃ p ys, xs = [V.ref p] ∧ (SqL K H p ys ∨ SqT K H p ys) ∧ Q (.int ys.length) H
abbrev rTupS (K : PySem.W.Frag) : List V → Hp → VK → Prop := fun xs H Q => ∃ p ys, xs = [V.ref p] ∧ SqL K H p ys ∧ NewT H ys Q
abbrev nestD (nest : Nest) : PyData := .tuple (nest.map dO)
theorem nest_at {nest : Nest} {k : Nat} (h : k < nest.length) : atI (nest.map dO) (k : Int) = some (dO (up nest k)) := by
  refine atI_nat ?_
  rw [List.getElem?_map, List.getElem?_eq_getElem h]
  unfold up
  rw [List.getD_eq_getElem?_getD, List.getElem?_eq_getElem h]
  rfl
theorem ns_at {l : List Nat} {k x : Nat} (h : l[k]? = some x) : atI (dNs l) (k : Int) = some (dN x) := atI_nat (by rw [List.getElem?_map, h]; rfl)
theorem ns_atD {l : List Nat} {k : Nat} (h : k < l.length) : atI (dNs l) (k : Int) = some (dN (l.getD k 0)) := ns_at (by rw [List.getD_eq_getElem?_getD, List.getElem?_eq_getElem h]; rfl)
theorem rep_vO {H : Hp} : ∀ o : Option Nat, Rep H (vO o) (dO o)
  | none => .non
  | some _ => .int _
/-- the doors around, from the next on -/
def tailO (nest : Nest) : Option Nat → List Nat
  | none => []
  | some e => e :: around nest e
theorem tailO_up {nest : Nest} (V : Valid nest) (k : Nat) : tailO nest (up nest k) = around nest k := by
  cases h : up nest k with
  | none => exact (around_none h).symm
  | some e => exact (around_some V h).symm
theorem around_len {nest : Nest} (V : Valid nest) : ∀ k, (around nest k).length ≤ nest.length := by
  have key : ∀ d, d < nest.length → (around nest d).length + d < nest.length := by
    refine tree_ind V (fun d e h => ?_) (fun d u e ih h => ?_)
    · rw [around_none e]; simpa using h
    · rw [around_some V e, List.length_cons]
      obtain ⟨a, b⟩ := V.par d u e
      have := ih b
      omega
  intro k
  rcases Nat.lt_or_ge k nest.length with h | h
  · have := key k h; omega
  · rw [around_none (up_big h)]; exact Nat.zero_le _
end CD
set_option Elab.async false
set_option linter.all false
set_option maxRecDepth 100000
set_option maxHeartbeats 4000000
namespace CD
open PySem PySem.Spec L2
open PyProof.Rows hiding St
section
variable {P : Program} {w : World} {K : PySem.W.Frag} {mg : Str → Option Value} {base : Heap} {tk : Tok} {f f1 f2 f3 : Addr} {fd fd1 fd2 fd3 : FuncData}
/-! ### is_in -/
abbrev s_is_in : Stmt := topS 7
abbrev n_is_in : List Str := ["value", "least", "most"]
theorem sc_is_in : FnScope n_is_in ["value", "least", "most"] (defScope s_is_in) := ⟨rfl, rfl, rfl, by decide +kernel, rfl, by decide +kernel, by decide +kernel⟩
def R_is_in (ds : List PyData) (d : PyData) : Prop := ∃ i a b : Int, ds = [.int i, .int a, .int b] ∧ d = .bool (decide (a ≤ i) && decide (i ≤ b))
abbrev D_is_in (K : PySem.W.Frag) (mg : Str → Option Value) := Def K mg "is_in" s_is_in ["value", "least", "most"]
theorem ok_is_in (D : D_is_in K mg f fd) (T : Top mg tk) : FnOk P w K mg base CX0 1 f fd ["value", "least", "most"] (PureR R_is_in) := by
  refine D.F.ok sc_is_in (fun vs H Q E h => ?_) (fun cdv A outer s H vs Q E hr h => ?_)
  · obtain ⟨ds, d, r, ⟨i, a, b, rfl, rfl⟩, _⟩ := h
    exact r.len
  · obtain ⟨ds, d, r, ⟨i, a, b, rfl, rfl⟩, q⟩ := h
    obtain ⟨v1, v2, v3, rfl, r1, r2, r3⟩ := r.three
    refine ⟨_, (pss_one (ps_ret (pe_and (pe_callB (r := rIsi K) call_isi (by rfl) T.isinstance (by decide +kernel) (pa_cons (pv 0) (pa_cons (pe_bltn (v := .ty "int") (by rfl) T.int (by decide +kernel) rfl) pa_nil))) (pe_and (pe_not (pe_callB (r := rIsi K) call_isi (by rfl) T.isinstance (by decide +kernel) (pa_cons (pv 0) (pa_cons (pe_bltn (v := .ty "bool") (by rfl) T.bool (by decide +kernel) rfl) pa_nil)))) (pe_one (pe_chain op_le op_le (pv 1) (pv 0) (pv 2))))))), ?_⟩
    exact ret_go (y_and (y_isi (y_var r1) kit_ii) (fun _ => y_and (y_not (y_isi (y_var r1) kit_ib)) (fun _ => y_chain (y_var r2) (y_var r1) (y_var r3)) (fun h => by cases h)) (fun h => by cases h)) q
/-! ### need_nest -/
abbrev s_need_nest : Stmt := topS 10
abbrev n_need_nest : List Str := ["nest", "index", "one"]
theorem sc_need_nest : FnScope n_need_nest ["nest"] (defScope s_need_nest) := ⟨rfl, rfl, rfl, by decide +kernel, rfl, by decide +kernel, by decide +kernel⟩
def R_need_nest (ds : List PyData) (d : PyData) : Prop := ∃ nest : Nest, Valid nest ∧ ds = [nestD nest] ∧ d = .none
abbrev D_need_nest (K : PySem.W.Frag) (mg : Str → Option Value) := Def K mg "need_nest" s_need_nest ["nest"]
theorem ok_need_nest (D : D_need_nest K mg f fd) (T : Top mg tk) (D_is_in : D_is_in K mg f1 fd1) : FnOk P w K mg base CX0 2 f fd ["nest"] (PureR R_need_nest) := by
  have G_is_in := ok_is_in (P := P) (w := w) (base := base) D_is_in T
  refine D.F.ok sc_need_nest (fun vs H Q E h => ?_) (fun cdv A outer s H vs Q E hr h => ?_)
  · obtain ⟨ds, d, r, ⟨nest, hV, rfl, rfl⟩, _⟩ := h
    exact r.len
  · obtain ⟨ds, d, r, ⟨nest, hV, rfl, rfl⟩, q⟩ := h
    obtain ⟨v1, rfl, r1⟩ := r.one
    refine ⟨_, (pss_cons (ps_if (PW.pt (pw_or (pt_not (pt_val (pe_callB (r := rIsi K) call_isi (by rfl) T.isinstance (by decide +kernel) (pa_cons (pv 0) (pa_cons (pe_bltn (v := .ty "tuple") (by rfl) T.tuple (by decide +kernel) rfl) pa_nil))))) (pw_or1 (pt_not (pt_chain op_le op_le pe_int (pe_callB (r := rLenS K) call_len_seq (by rfl) T.len PySem.boot_len (pa_cons (pv 0) pa_nil)) (pe_glob (v := .int 9) (by rfl) T.most ⟨_, rfl⟩)))))) (pss_one ps_never) pss_nil)
      (pss_one (ps_for PassesOwn.never rfl (pi_enumT (by rfl) T.enumerate (pa_cons (pv 0) pa_nil)) (pg_tup rfl (pgs_cons (pg_name (i := 1) sc_need_nest.nd rfl (.inl rfl)) (pgs_cons (pg_name (i := 2) sc_need_nest.nd rfl (.inl rfl)) pgs_nil))) (pss_one (ps_if (PW.pt (pw_and (pt_cmpR op_notN (pv 2) pe_non (nomark _)) (pw_and1 (pt_not (pt_val (pe_call G_is_in (hr.mono (by decide)) (by rfl) D_is_in.g D_is_in.F.kp D_is_in.b .nil pass0 (pa_cons (pv 2) (pa_cons (pe_op op_add (pv 1) pe_int) (pa_cons (pe_op op_sub (pe_callB (r := rLenS K) call_len_seq (by rfl) T.len PySem.boot_len (pa_cons (pv 0) pa_nil)) pe_int) pa_nil))))))))) (pss_one ps_never) pss_nil))))), ?_⟩
    have n1 := hV.pos
    have n2 := hV.few
    have hl : (nest.map dO).length = nest.length := List.length_map ..
    refine if_no ((yt_or (yt_not (yt_val (y_isi (y_var r1) kit_tt))) fun _ => yt_not (yt_test (y_chain y_int (y_lent (y_var r1)) y_int))).cast ?_) fun H1 s1 => ?_
    · rw [hl]
      simp
      omega
    · obtain ⟨a, o, xs, rfl, h1, h0, h2⟩ := r1.toTup
      have hxs := repAll_o h2
      refine ⟨.ref a, rfl, a, xs, rfl, sqF (s1 _ _ h1), for_enumT (xs := xs) (fun i σ H2 => ∃ y1 y2, σ = [some (.ref a), y1, y2] ∧ Same H1 H2) ⟨none, none, rfl, Same.refl H1⟩ (fun i σ H2 _ ⟨_, _, _, s2⟩ => sqF (s2 _ _ (s1 _ _ h1))) ?_ ?_⟩
      · rintro i x T σ H2 hx ⟨y1, y2, rfl, s2⟩ nT
        have hi : i < nest.length := by
          have := (List.getElem?_eq_some_iff.mp hx).1
          rw [hxs, List.length_map] at this
          exact this
        have ex : x = vO (up nest i) := by
          rw [hxs, List.getElem?_map, List.getElem?_eq_getElem hi] at hx
          unfold up
          rw [List.getD_eq_getElem?_getD, List.getElem?_eq_getElem hi]
          exact (Option.some.inj hx).symm
        subst ex
        refine gpair ?_
        have s3 : Same H1 (upd H2 T (.tup [.int (i : Nat), vO (up nest i)])) := s2.trans (same_new nT)
        have r1' := r1.up (s1.trans s3)
        cases hu : up nest i with
        | none =>
          refine if1_no ((yt_and (c := true) (yt_test (y_notN (y_var (v := .non) .non) y_non)) (fun h => by cases h)).cast rfl) fun H4 s4 => ⟨_, _, rfl, ?_⟩
          rw [hu] at s3
          exact s3.trans s4
        | some e =>
          obtain ⟨g1, g2⟩ := hV.par i e hu
          rw [hu] at r1' s3
          refine if1_no ((yt_and (yt_test (y_notN (y_var (v := .int (e : Int)) (.int _)) y_non)) fun _ => yt_not (yt_val (y_call (ya_cons (y_var (.int _)) (ya_cons (y_add (y_var (.int _)) y_int) (ya_cons (y_sub (y_lent (y_var r1')) y_int) ya_nil))) ⟨_, _, _, rfl, rfl⟩))).cast ?_) fun H4 s4 => ⟨_, _, rfl, s3.trans s4⟩
          rw [hl]
          have c1 : decide ((i : Int) + 1 ≤ (e : Int)) = true := decide_eq_true (by omega)
          have c2 : decide ((e : Int) ≤ ((nest.length : Nat) : Int) - 1) = true := decide_eq_true (by omega)
          rw [c1, c2]
          rfl
      · rintro σ H2 ⟨y1, y2, rfl, s2⟩
        exact q _ H2 (s1.trans s2) .non
/-! ### around_in -/
abbrev s_around_in : Stmt := topS 11
abbrev n_around_in : List Str := ["nest", "door", "found", "here"]
theorem sc_around_in : FnScope n_around_in ["nest", "door"] (defScope s_around_in) := ⟨rfl, rfl, rfl, by decide +kernel, rfl, by decide +kernel, by decide +kernel⟩
def R_around_in (ds : List PyData) (d : PyData) : Prop := ∃ (nest : Nest) (k : Nat), Valid nest ∧ k < nest.length ∧ ds = [nestD nest, dN k] ∧ d = .list (dNs (around nest k))
abbrev D_around_in (K : PySem.W.Frag) (mg : Str → Option Value) := Def K mg "around_in" s_around_in ["nest", "door"]
theorem ok_around_in (D : D_around_in K mg f fd) : FnOk P w K mg base CX0 1 f fd ["nest", "door"] (PureR R_around_in) := by
  refine D.F.ok sc_around_in (fun vs H Q E h => ?_) (fun cdv A outer s H vs Q E hr h => ?_)
  · obtain ⟨ds, d, r, ⟨nest, k, hV, hk, rfl, rfl⟩, _⟩ := h
    exact r.len
  · obtain ⟨ds, d, r, ⟨nest, k, hV, hk, rfl, rfl⟩, q⟩ := h
    obtain ⟨v1, v2, rfl, r1, r2⟩ := r.two
    refine ⟨_, (pss_cons (ps_par (i := 2) (j := 3) (by rfl) sc_around_in.nd rfl rfl (by decide) rfl rfl (pa_cons (pe_lst pa_nil) (pa_cons (pe_ix (r := rIx K) ix_seq (pv 0) (pv 1) (fun _ _ => rfl)) pa_nil)) (by rfl))
      (pss_cons (ps_while PassesOwn.never (pt_cmpR op_notN (pv 3) pe_non (nomark _)) (pss_cons (ps_expr (pe_bm PySem.F.plainAttrs_list PySem.F.slot_list_append PySem.F.type_list_append mt_append (pv 2) (pa_cons (pv 3) pa_nil)))
      (pss_one (ps_set (i := 3) sc_around_in.nd rfl (.inl rfl) (pe_ix (r := rIx K) ix_seq (pv 0) (pv 3) (fun _ _ => rfl))))))
      (pss_one (ps_ret (pv 2))))), ?_⟩
    obtain ⟨a, o, xs, rfl, h1, h0, h2⟩ := r1.toTup
    rw [r2.toInt]
    refine ⟨Nat.zero_le _, fun p np => ?_⟩
    have s1 : Same H (upd H p (.lst [])) := same_new np
    refine (y_ixt (y_var (r1.up s1)) (y_var (.int _)) (nest_at hk)).go fun v H2 s2 r3 => ⟨.ref p, v, rfl, ?_⟩
    rw [rep_o r3]
    clear r3 v
    have hp2 : H2 p = some (.lst []) := s2 _ _ upd_same
    -- while here is not None
    refine ⟨fun m σ H3 => ∃ (o : Option Nat) (pre : List Nat), σ = [some (.ref a), some (.int (k : Int)), some (.ref p), some (vO o)] ∧ Same H H3 ∧ H3 p = some (.lst (pre.map fun n : Nat => V.int (n : Int))) ∧ around nest k = pre ++ tailO nest o ∧ m = (tailO nest o).length,
      ⟨_, up nest k, [], rfl, s1.trans s2, hp2, (tailO_up hV k).symm, rfl⟩, ?_⟩
    rintro m σ H3 ⟨o3, pre, rfl, s3, hp3, e3, rfl⟩
    refine (yt_test (y_notN (y_var (i := 3) (v := vO o3) (rep_vO o3)) y_non)).go fun H4 s4 => ?_
    have hp4 := s4 _ _ hp3
    have s04 := s3.trans s4
    rw [ev_on]
    cases o3 with
    | none =>
      refine iteF ⟨_, rfl, q _ H4 s04 (.lst hp4 ?_)⟩
      rw [e3]
      show RepAll H4 _ (dNs (pre ++ []))
      rw [List.append_nil]
      exact repAll_of_n pre
    | some e =>
      have he : e < nest.length := (around_lt hV (c := e) (d := k) (by rw [e3]; exact List.mem_append_right _ List.mem_cons_self)).2
      have hlen := around_len hV k
      rw [e3, List.length_append] at hlen
      have hle : pre.length ≤ 9 := by have := hV.few; omega
      refine iteT ⟨fun σ H5 => σ = [some (.ref a), some (.int (k : Int)), some (.ref p), some (vO (up nest e))] ∧ Same H H5 ∧ H5 p = some (.lst ((pre ++ [e]).map fun n : Nat => V.int (n : Int))), ?_, ?_⟩
      · rintro σ H5 ⟨rfl, a1, a2⟩
        refine ⟨_, ?_, up nest e, pre ++ [e], rfl, a1, a2, ?_, rfl⟩
        · rw [tailO_up hV e]
          show _ < (e :: around nest e).length
          exact Nat.lt_succ_self _
        · rw [e3, tailO_up hV e, List.append_assoc]
          rfl
      · refine ⟨.ref p, rfl, .inl ⟨rfl, _, SqL.of hp4⟩, .int (e : Int), rfl, p, _, _, rfl, rfl, hp4, ?_, ?_⟩
        · rw [List.length_map]; exact small1000 (by omega)
        · have s5 : Same H (upd H4 p (.lst (pre.map (fun n : Nat => V.int (n : Int)) ++ [.int (e : Int)]))) := fun b u h => by
            rw [upd_ne (ne_of_none h np)]; exact s04 _ _ h
          refine set1_go (y_ixt (y_var (r1.up s5)) (y_var (.int _)) (nest_at he)) fun v H6 s6 r6 => ?_
          rw [rep_o r6]
          refine ⟨rfl, s5.trans s6, s6 _ _ ?_⟩
          rw [upd_same, List.map_append]
          rfl
/-! ### inside_in -/
abbrev s_inside_in : Stmt := topS 12
abbrev n_inside_in : List Str := ["nest", "door", "k"]
theorem sc_inside_in : FnScope n_inside_in ["nest", "door"] (defScope s_inside_in) := ⟨rfl, rfl, rfl, by decide +kernel, rfl, by decide +kernel, by decide +kernel⟩
def R_inside_in (ds : List PyData) (d : PyData) : Prop := ∃ (nest : Nest) (k : Nat), Valid nest ∧ k < nest.length ∧ ds = [nestD nest, dN k] ∧ d = .list (dNs (inside nest k))
abbrev D_inside_in (K : PySem.W.Frag) (mg : Str → Option Value) := Def K mg "inside_in" s_inside_in ["nest", "door"]
theorem ok_inside_in (D : D_inside_in K mg f fd) (T : Top mg tk) (D_around_in : D_around_in K mg f1 fd1) : FnOk P w K mg base CX0 2 f fd ["nest", "door"] (PureR R_inside_in) := by
  have G_around_in := ok_around_in (P := P) (w := w) (base := base) D_around_in
  refine D.F.ok sc_inside_in (fun vs H Q E h => ?_) (fun cdv A outer s H vs Q E hr h => ?_)
  · obtain ⟨ds, d, r, ⟨nest, k, hV, hk, rfl, rfl⟩, _⟩ := h
    exact r.len
  · obtain ⟨ds, d, r, ⟨nest, k, hV, hk, rfl, rfl⟩, q⟩ := h
    obtain ⟨v1, v2, rfl, r1, r2⟩ := r.two
    refine ⟨_, (pss_one (ps_ret (pe_lc (own := [("k", 2)]) (g := (gName 2)) rfl sc_inside_in.nd (pi_range1 (by rfl) T.range (pa_cons (pv 1) pa_nil)) (blkOk_by (N := n_inside_in) (sc := defScope s_inside_in) (by decide +kernel)) (fun _ _ _ _ _ => (pg_name (i := 2) sc_inside_in.nd rfl (.inl rfl))) (fun _ _ _ _ _ => (pts_one (pt_cmpR (r := rIn K false) op_in_seq (pv 1) (pe_call G_around_in (hr.mono (by decide)) (by rfl) D_around_in.g D_around_in.F.kp D_around_in.b .nil pass0 (pa_cons (pv 0) (pa_cons (pv 2) pa_nil))) (by rfl)))) (fun _ _ _ _ _ => (pv 2))))), ?_⟩
    have n2 := hV.few
    refine ret_go (y_lcR (ya_cons (y_var r2) ya_nil) (f := dN) (p := fun x => (around nest x).contains k) (by omega) (fun _ _ => rfl) (fun _ => rfl) fun x hx H1 s1 => ⟨?_, fun _ => y_var (.int _)⟩) q
    exact (yt_test (y_in (y_var (r2.up s1)) (y_call (ya_cons (y_var (r1.up s1)) (ya_cons (y_var (.int _)) ya_nil)) ⟨nest, x, hV, by omega, rfl, rfl⟩) rfl (flat_ns _))).cast (any_ns _ _)
end
end CD
set_option Elab.async false
set_option linter.all false
set_option maxRecDepth 100000
set_option maxHeartbeats 4000000
namespace CD
open PySem PySem.Spec L2
open PyProof.Rows hiding St
theorem sizesStep_len {nest : Nest} {s : List Nat} {k : Nat} : (sizesStep nest s k).length = s.length := by
  unfold sizesStep
  split
  · rfl
  · rw [List.length_set]
def sizesTo (nest : Nest) (i : Nat) : List Nat := (List.range i).foldl (sizesStep nest) (List.replicate nest.length 1)
theorem sizesTo_len (nest : Nest) : ∀ i, (sizesTo nest i).length = nest.length
  | 0 => List.length_replicate ..
  | i + 1 => by
    unfold sizesTo
    rw [List.range_succ, List.foldl_append]
    show (sizesStep nest (sizesTo nest i) i).length = _
    rw [sizesStep_len, sizesTo_len nest i]
theorem sizesTo_succ (nest : Nest) (i : Nat) : sizesTo nest (i + 1) = sizesStep nest (sizesTo nest i) i := by
  unfold sizesTo
  rw [List.range_succ, List.foldl_append]
  rfl
theorem rep_one (n : Nat) : (List.replicate n [V.int 1]).flatten = (List.replicate n 1).map fun n : Nat => V.int (n : Int) := by
  induction n with
  | zero => rfl
  | succ n ih => rw [List.replicate_succ, List.flatten_cons, ih, List.replicate_succ]; rfl
section
variable {P : Program} {w : World} {K : PySem.W.Frag} {mg : Str → Option Value} {base : Heap} {tk : Tok} {f f1 f2 f3 : Addr} {fd fd1 fd2 fd3 : FuncData}
/-! ### sizes_in -/
abbrev s_sizes_in : Stmt := topS 13
abbrev n_sizes_in : List Str := ["nest", "found", "k", "one"]
theorem sc_sizes_in : FnScope n_sizes_in ["nest"] (defScope s_sizes_in) := ⟨rfl, rfl, rfl, by decide +kernel, rfl, by decide +kernel, by decide +kernel⟩
def R_sizes_in (ds : List PyData) (d : PyData) : Prop := ∃ nest : Nest, Valid nest ∧ ds = [nestD nest] ∧ d = .list (dNs (sizes nest))
abbrev D_sizes_in (K : PySem.W.Frag) (mg : Str → Option Value) := Def K mg "sizes_in" s_sizes_in ["nest"]
theorem ok_sizes_in (D : D_sizes_in K mg f fd) (T : Top mg tk) : FnOk P w K mg base CX0 1 f fd ["nest"] (PureR R_sizes_in) := by
  refine D.F.ok sc_sizes_in (fun vs H Q E h => ?_) (fun cdv A outer s H vs Q E hr h => ?_)
  · obtain ⟨ds, d, r, ⟨nest, hV, rfl, rfl⟩, _⟩ := h
    exact r.len
  · obtain ⟨ds, d, r, ⟨nest, hV, rfl, rfl⟩, q⟩ := h
    obtain ⟨v1, rfl, r1⟩ := r.one
    refine ⟨_, (pss_cons (ps_set (i := 1) sc_sizes_in.nd rfl (.inl rfl) (pe_op op_rep (pe_lst (pa_cons pe_int pa_nil)) (pe_callB (r := rLenS K) call_len_seq (by rfl) T.len PySem.boot_len (pa_cons (pv 0) pa_nil))))
      (pss_cons (ps_for PassesOwn.never rfl (pi_enumT (by rfl) T.enumerate (pa_cons (pv 0) pa_nil)) (pg_tup rfl (pgs_cons (pg_name (i := 2) sc_sizes_in.nd rfl (.inl rfl)) (pgs_cons (pg_name (i := 3) sc_sizes_in.nd rfl (.inl rfl)) pgs_nil))) (pss_one (ps_if (pt_cmpR op_notN (pv 3) pe_non (nomark _)) (pss_one (ps_augS (pv 1) (pv 3) pget_list (pe_ix (r := rIx K) ix_seq (pv 1) (pv 2) (fun _ _ => rfl)) ip_add set_list)) pss_nil)))
      (pss_one (ps_ret (pv 1))))), ?_⟩
    obtain ⟨a, o, xs, rfl, h1, h0, h2⟩ := r1.toTup
    have n2 := hV.few
    have hxs := repAll_o h2
    have hl : (nest.map dO).length = nest.length := List.length_map ..
    refine ⟨by decide, fun p0 n0 => (y_lent (y_var (r1.up (same_new n0)))).go fun v H2 s2 r2 => ?_⟩
    have s02 := (same_new (o := .lst [.int 1]) n0).trans s2
    rw [hl] at r2
    refine ⟨p0, (nest.length : Int), [.int 1], rfl, r2.toInt, s2 _ _ upd_same, by omega, by omega, by rw [List.length_singleton, Nat.one_mul, Int.toNat_natCast]; exact le1000 (by omega), fun p np => ?_⟩
    rw [Int.toNat_natCast, rep_one]
    have np0 := s02.free np
    refine ⟨.ref a, rfl, a, xs, rfl, sqF (same_new np _ _ (s02 _ _ h1)), for_enumT (xs := xs) (fun i σ H3 => ∃ y2 y3, σ = [some (.ref a), some (.ref p), y2, y3] ∧ Same H H3 ∧ H3 p = some (.lst ((sizesTo nest i).map fun n : Nat => V.int (n : Int))))
      ⟨none, none, rfl, s02.trans (same_new np), upd_same⟩ (fun i σ H3 _ ⟨_, _, _, s3, _⟩ => sqF (s3 _ _ h1)) ?_ ?_⟩
    · rintro i x T' σ H3 hx ⟨y2, y3, rfl, s3, hp⟩ nT
      have hi : i < nest.length := by
        have := (List.getElem?_eq_some_iff.mp hx).1
        rw [hxs, List.length_map] at this
        exact this
      have ex : x = vO (up nest i) := by
        rw [hxs, List.getElem?_map, List.getElem?_eq_getElem hi] at hx
        unfold up
        rw [List.getD_eq_getElem?_getD, List.getElem?_eq_getElem hi]
        exact (Option.some.inj hx).symm
      subst ex
      refine gpair ?_
      have s4 : Same H (upd H3 T' (.tup [.int (i : Nat), vO (up nest i)])) := s3.trans (same_new nT)
      have hp4 : upd H3 T' (.tup [.int (i : Nat), vO (up nest i)]) p = some (.lst ((sizesTo nest i).map fun n : Nat => V.int (n : Int))) := by
        rw [upd_ne (ne_of_none hp nT)]; exact hp
      rw [sizesTo_succ]
      refine if_go (yt_test (y_notN (y_var (i := 3) (v := vO (up nest i)) (rep_vO _)) y_non)) (fun hb H5 s5 => ?_) (fun hb H5 s5 => ?_)
      · rw [ev_on] at hb
        obtain ⟨e, he⟩ : ∃ e, up nest i = some e := by
          cases hu : up nest i with
          | none => rw [hu] at hb; cases hb
          | some e => exact ⟨e, rfl⟩
        obtain ⟨g1, g2⟩ := hV.par i e he
        have hp5 := s5 _ _ hp4
        have ls := sizesTo_len nest i
        have g3 : ((sizesTo nest i).map fun n : Nat => V.int (n : Int))[e]? = some (.int (((sizesTo nest i).getD e 0 : Nat) : Int)) := by
          rw [List.getElem?_map, List.getD_eq_getElem?_getD, List.getElem?_eq_getElem (by omega)]
          rfl
        rw [he]
        refine ⟨.ref p, rfl, .int (e : Int), rfl, p, _, e, _, rfl, rfl, SqL.of hp5, g3, ?_⟩
        refine (y_ix (y_var (i := 1) (v := .ref p) (.lst hp5 (repAll_of_n _))) (y_var (i := 2) (v := .int (i : Int)) (.int _)) (ns_atD (by omega))).go fun v H6 s6 r6 => ?_
        refine ⟨_, _, rfl, r6.toInt, p, _, (e : Int), e, rfl, rfl, s6 _ _ hp5, ?_, _, _, rfl, fun b u q => ?_, ?_⟩
        · unfold ixN
          rw [if_pos (by omega), if_pos (by rw [List.length_map]; omega), Int.toNat_natCast]
        · rw [upd_ne (ne_of_none q np0)]
          exact s6 _ _ (s5 _ _ (s4 _ _ q))
        · rw [upd_same]
          unfold sizesStep
          rw [he]
          show some (HO.lst _) = some (HO.lst (((sizesTo nest i).set e _).map _))
          rw [List.map_set]
          congr 3
      · rw [ev_on] at hb
        have he : up nest i = none := by
          cases hu : up nest i with
          | none => rfl
          | some e => rw [hu] at hb; cases hb
        have e : sizesStep nest (sizesTo nest i) i = sizesTo nest i := by
          unfold sizesStep
          rw [he]
        refine ⟨_, _, rfl, s4.trans s5, ?_⟩
        rw [e]
        exact s5 _ _ hp4
    · rintro σ H3 ⟨y2, y3, rfl, s3, hp⟩
      refine ⟨_, rfl, q _ H3 s3 (.lst hp ?_)⟩
      have : xs.length = nest.length := by rw [hxs, List.length_map]
      rw [this]
      exact repAll_of_n _
/-! ### product -/
abbrev s_product : Stmt := topS 14
abbrev n_product : List Str := ["values", "found", "one"]
theorem sc_product : FnScope n_product ["values"] (defScope s_product) := ⟨rfl, rfl, rfl, by decide +kernel, rfl, by decide +kernel, by decide +kernel⟩
def R_product (ds : List PyData) (d : PyData) : Prop := ∃ l : List Nat, (∀ x ∈ l, x < 1000) ∧ l.length ≤ 1000 ∧ ds = [.list (dNs l)] ∧ d = dN (prod l)
abbrev D_product (K : PySem.W.Frag) (mg : Str → Option Value) := Def K mg "product" s_product ["values"]
theorem ok_product (D : D_product K mg f fd) : FnOk P w K mg base CX0 1 f fd ["values"] (PureR R_product) := by
  refine D.F.ok sc_product (fun vs H Q E h => ?_) (fun cdv A outer s H vs Q E hr h => ?_)
  · obtain ⟨ds, d, r, ⟨l, hs, hl, rfl, rfl⟩, _⟩ := h
    exact r.len
  · obtain ⟨ds, d, r, ⟨l, hs, hl, rfl, rfl⟩, q⟩ := h
    obtain ⟨v1, rfl, r1⟩ := r.one
    refine ⟨_, (pss_cons (ps_set (i := 1) sc_product.nd rfl (.inl rfl) pe_int)
      (pss_cons (ps_for PassesOwn.never rfl (pi_list (pv 0)) (pg_name (i := 2) sc_product.nd rfl (.inl rfl)) (pss_one (ps_aug (i := 1) sc_product.nd rfl (.inl rfl) (pv 2) ip_mul)))
      (pss_one (ps_ret (pv 1))))), ?_⟩
    obtain ⟨a, xs, rfl, h1, h2⟩ := r1.toLst
    have hxs := repAll_n h2
    refine ⟨.ref a, rfl, a, rfl, ⟨xs, SqL.of h1⟩, for_list (xs := xs) (fun i σ H3 => ∃ y, σ = [some (.ref a), some (.int ((prod (l.take i) : Nat) : Int)), y] ∧ H3 = H) ⟨none, rfl, rfl⟩ (fun i σ H3 _ ⟨_, _, e⟩ => by rw [e]; exact SqL.of h1) ?_ ?_⟩
    · rintro i x σ H3 hx ⟨y, rfl, rfl⟩
      have hi : i < l.length := by
        have := (List.getElem?_eq_some_iff.mp hx).1
        rw [hxs, List.length_map] at this
        exact this
      have ex : x = .int ((l[i] : Nat) : Int) := by
        rw [hxs, List.getElem?_map, List.getElem?_eq_getElem hi] at hx
        exact (Option.some.inj hx).symm
      subst ex
      have hb := hs _ (List.getElem_mem hi)
      refine ⟨_, rfl, _, rfl, _, _, rfl, rfl, .inr ⟨by omega, by omega⟩, some (.int ((l[i] : Nat) : Int)), ?_, rfl⟩
      have e : prod (l.take (i + 1)) = prod (l.take i) * l[i] := by
        unfold prod
        rw [List.take_add_one, List.getElem?_eq_getElem hi, List.foldl_append]
        rfl
      rw [e, Int.natCast_mul]
      rfl
    · rintro σ H3 ⟨y, rfl, rfl⟩
      refine ⟨_, rfl, q _ _ (Same.refl _) ?_⟩
      have : xs.length = l.length := by rw [hxs, List.length_map]
      rw [this, List.take_length]
      exact .int _
/-! ### mixings -/
abbrev s_mixings_in : Stmt := topS 15
abbrev n_mixings_in : List Str := ["nest"]
theorem sc_mixings_in : FnScope n_mixings_in ["nest"] (defScope s_mixings_in) := ⟨rfl, rfl, rfl, by decide +kernel, rfl, by decide +kernel, by decide +kernel⟩
def R_mixings_in (ds : List PyData) (d : PyData) : Prop := ∃ nest : Nest, Valid nest ∧ nest.length ≤ 5 ∧ ds = [nestD nest] ∧ d = dN (mixings nest)
abbrev D_mixings_in (K : PySem.W.Frag) (mg : Str → Option Value) := Def K mg "mixings_in" s_mixings_in ["nest"]
theorem y_fdiv {ta tb : TE} {σ : L2.St} {H : Hp} {a b : Nat} (ha : Y ta σ H (dN a)) (hb : Y tb σ H (dN b)) (h0 : 0 < b) (h1 : b < 1000) : Y (tOp (rI CDiv fun i j => .int (i / j)) ta tb) σ H (dN (a / b)) :=
  y_op ha hb fun v u H1 Q _ r1 r2 q => ⟨a, b, r1.toInt, r2.toInt, ⟨by omega, by omega⟩, q _ H1 (Same.refl H1) (by show Rep H1 (.int ((a : Int) / (b : Int))) (dN (a / b)); rw [← Int.natCast_ediv]; exact .int _)⟩
theorem ok_mixings_in (D : D_mixings_in K mg f fd) (T : Top mg tk) (D_product : D_product K mg f1 fd1) (D_sizes_in : D_sizes_in K mg f2 fd2) : FnOk P w K mg base CX0 2 f fd ["nest"] (PureR R_mixings_in) := by
  have G_product := ok_product (P := P) (w := w) (base := base) D_product
  have G_sizes_in := ok_sizes_in (P := P) (w := w) (base := base) D_sizes_in T
  refine D.F.ok sc_mixings_in (fun vs H Q E h => ?_) (fun cdv A outer s H vs Q E hr h => ?_)
  · obtain ⟨ds, d, r, ⟨nest, hV, h5, rfl, rfl⟩, _⟩ := h
    exact r.len
  · obtain ⟨ds, d, r, ⟨nest, hV, h5, rfl, rfl⟩, q⟩ := h
    obtain ⟨v1, rfl, r1⟩ := r.one
    refine ⟨_, (pss_one (ps_ret (pe_op op_fdiv (pe_call G_product (hr.mono (by decide)) (by rfl) D_product.g D_product.F.kp D_product.b .nil pass0 (pa_cons (pe_listRg rfl (by rfl) T.list (prg_2 (by rfl) T.range pe_int (pe_op op_add (pe_callB (r := rLenS K) call_len_seq (by rfl) T.len PySem.boot_len (pa_cons (pv 0) pa_nil)) pe_int))) pa_nil)) (pe_call G_product (hr.mono (by decide)) (by rfl) D_product.g D_product.F.kp D_product.b .nil pass0 (pa_cons (pe_call G_sizes_in (hr.mono (by decide)) (by rfl) D_sizes_in.g D_sizes_in.F.kp D_sizes_in.b .nil pass0 (pa_cons (pv 0) pa_nil)) pa_nil))))), ?_⟩
    obtain ⟨z1, z2, z3, _⟩ := small_of hV h5
    have hl : (nest.map dO).length = nest.length := List.length_map ..
    have sl : (sizes nest).length = nest.length := (good_of hV h5).z.1
    refine ret_go (y_fdiv (y_call (ya_cons (y_listRg2 (a := 1) (n := nest.length) y_int ((y_add (y_lent (y_var r1)) y_int).cast ?_) (by omega)) ya_nil) ⟨(List.range nest.length).map (· + 1), ?_, ?_, ?_, rfl⟩) (y_call (ya_cons (y_call (ya_cons (y_var r1) ya_nil) ⟨nest, hV, rfl, rfl⟩) ya_nil) ⟨sizes nest, z3, by omega, rfl, rfl⟩) z1 z2) q
    · rw [hl]
      show PyData.int ((nest.length : Int) + 1) = PyData.int ((1 + nest.length : Nat) : Int)
      rw [Int.natCast_add, Int.add_comm]
      rfl
    · intro x hx
      obtain ⟨i, hi, rfl⟩ := List.mem_map.mp hx
      have := List.mem_range.mp hi
      show i + 1 < 1000
      omega
    · rw [List.length_map, List.length_range]; omega
    · have e : dNs ((List.range nest.length).map (· + 1)) = (List.range nest.length).map fun i => dN (1 + i) := by
        unfold dNs
        rw [List.map_map (g := dN)]
        refine List.map_congr_left fun i _ => ?_
        show dN (i + 1) = dN (1 + i)
        rw [Nat.add_comm]
      rw [e]
abbrev s_mixings : Stmt := topS 16
abbrev n_mixings : List Str := ["nest"]
theorem sc_mixings : FnScope n_mixings ["nest"] (defScope s_mixings) := ⟨rfl, rfl, rfl, by decide +kernel, rfl, by decide +kernel, by decide +kernel⟩
def R_mixings (ds : List PyData) (d : PyData) : Prop := ∃ nest : Nest, Valid nest ∧ nest.length ≤ 5 ∧ ds = [nestD nest] ∧ d = dN (mixings nest)
abbrev D_mixings (K : PySem.W.Frag) (mg : Str → Option Value) := Def K mg "mixings" s_mixings ["nest"]
theorem ok_mixings (D : D_mixings K mg f fd) {P : Program} {w : World} {base : Heap} (G_need_nest : FnOk P w K mg base CX0 2 f1 fd1 ["nest"] (PureR R_need_nest)) (D_need_nest : D_need_nest K mg f1 fd1) (G_mixings_in : FnOk P w K mg base CX0 2 f2 fd2 ["nest"] (PureR R_mixings_in)) (D_mixings_in : D_mixings_in K mg f2 fd2) :
    FnOk P w K mg base CX0 3 f fd ["nest"] (PureR R_mixings) := by
  refine D.F.ok sc_mixings (fun vs H Q E h => ?_) (fun cdv A outer s H vs Q E hr h => ?_)
  · obtain ⟨ds, d, r, ⟨nest, hV, h5, rfl, rfl⟩, _⟩ := h
    exact r.len
  · obtain ⟨ds, d, r, ⟨nest, hV, h5, rfl, rfl⟩, q⟩ := h
    obtain ⟨v1, rfl, r1⟩ := r.one
    refine ⟨_, (pss_cons (ps_expr (pe_call G_need_nest (hr.mono (by decide)) (by rfl) D_need_nest.g D_need_nest.F.kp D_need_nest.b .nil pass0 (pa_cons (pv 0) pa_nil)))
      (pss_one (ps_ret (pe_call G_mixings_in (hr.mono (by decide)) (by rfl) D_mixings_in.g D_mixings_in.F.kp D_mixings_in.b .nil pass0 (pa_cons (pv 0) pa_nil))))), ?_⟩
    exact expr_go (y_call (ya_cons (y_var r1) ya_nil) ⟨nest, hV, rfl, rfl⟩) fun H1 s1 => ret_go (y_call (ya_cons (y_var (r1.up s1)) ya_nil) ⟨nest, hV, h5, rfl, rfl⟩) fun v H2 s2 r2 => q v H2 (s1.trans s2) r2
end
end CD
set_option Elab.async false
set_option linter.all false
set_option maxRecDepth 100000
set_option maxHeartbeats 4000000
namespace CD
open PySem PySem.Spec L2
open PyProof.Rows hiding St
section
variable {t : TE} {tt : TT} {σ : L2.St} {H : Hp} {K : PySem.W.Frag} {α : Type} {enc : α → PyData} {xs : List α} {i : Nat} {vs : List Nat} {ts te : TE} {ta : TA}
/-- a comprehension over a tuple that keeps nothing -/
theorem y_lcT0 (hs : Y ts σ H (.tuple (xs.map enc))) (hl : xs.length ≤ 1000) (hw : ∀ v, wipe ((wipe σ vs).set i (some v)) vs = wipe σ vs)
    (hb : ∀ x ∈ xs, ∀ v H1, Same H H1 → Rep H1 v (enc x) → YT tt ((wipe σ vs).set i (some v)) H1 false) : Y (tLc (iTup K ts) (gName i) tt te vs) σ H (.list []) :=
  (y_lcT (p := fun _ => false) (f := fun _ => .none) hs hl (fun _ _ => rfl) hw fun x hx v H1 s r => ⟨hb x hx v H1 s r, fun h => by cases h⟩).cast (by rw [List.filter_eq_nil_iff.mpr (by simp)]; rfl)
/-- .. over range(n) that keeps all -/
theorem y_lcR1 {n : Nat} {f : Nat → PyData} (hs : YA ta σ H [dN n]) (hl : n ≤ 1000) (hn : ∀ x, x < n → noL (f x) = true) (hw : ∀ v, wipe ((wipe σ vs).set i (some v)) vs = wipe σ vs)
    (hb : ∀ x, x < n → ∀ H1, Same H H1 → Y te ((wipe σ vs).set i (some (.int (x : Int)))) H1 (f x)) : Y (tLc (iRng1 ta) (gName i) tYes te vs) σ H (.list ((List.range n).map f)) :=
  (y_lcR (p := fun _ => true) hs hl hn hw fun x hx H1 s => ⟨yt_yes, fun _ => hb x hx H1 s⟩).cast (by rw [List.filter_eq_self.mpr (fun _ _ => rfl)])
end
section
variable {P : Program} {w : World} {K : PySem.W.Frag} {mg : Str → Option Value} {base : Heap} {tk : Tok} {f f1 f2 f3 : Addr} {fd fd1 fd2 fd3 : FuncData}
theorem range_sorted (n : Nat) : (List.range n).Pairwise (· ≤ ·) := List.pairwise_lt_range.imp fun h => Nat.le_of_lt h
theorem IsOrder.perm {nest : Nest} {order : List Nat} (O : IsOrder nest order) : (List.range nest.length).Perm order :=
  (List.perm_ext_iff_of_nodup List.nodup_range O.nd).mpr fun x => ⟨fun h => O.all x (List.mem_range.mp h), fun h => List.mem_range.mpr (O.lt x h)⟩
theorem in_range (x n : Nat) (h : x < n) : (decide ((0 : Int) ≤ (x : Int)) && decide ((x : Int) ≤ ((n : Nat) : Int) - 1)) = true := by
  rw [decide_eq_true (by omega), decide_eq_true (by omega)]
  rfl
/-! ### is_order -/
abbrev s_is_order : Stmt := topS 18
abbrev n_is_order : List Str := ["nest", "value", "x"]
theorem sc_is_order : FnScope n_is_order ["nest", "value"] (defScope s_is_order) := ⟨rfl, rfl, rfl, by decide +kernel, rfl, by decide +kernel, by decide +kernel⟩
def R_is_order (ds : List PyData) (d : PyData) : Prop := ∃ (nest : Nest) (order : List Nat), Valid nest ∧ IsOrder nest order ∧ ds = [nestD nest, .tuple (dNs order)] ∧ d = .bool true
abbrev D_is_order (K : PySem.W.Frag) (mg : Str → Option Value) := Def K mg "is_order" s_is_order ["nest", "value"]
theorem ok_is_order (D : D_is_order K mg f fd) (T : Top mg tk) (D_is_in : D_is_in K mg f1 fd1) : FnOk P w K mg base CX0 2 f fd ["nest", "value"] (PureR R_is_order) := by
  have G_is_in := ok_is_in (P := P) (w := w) (base := base) D_is_in T
  refine D.F.ok sc_is_order (fun vs H Q E h => ?_) (fun cdv A outer s H vs Q E hr h => ?_)
  · obtain ⟨ds, d, r, ⟨nest, order, hV, O, rfl, rfl⟩, _⟩ := h
    exact r.len
  · obtain ⟨ds, d, r, ⟨nest, order, hV, O, rfl, rfl⟩, q⟩ := h
    obtain ⟨v1, v2, rfl, r1, r2⟩ := r.two
    have n2 := hV.few
    have ol := O.len
    have hl : (nest.map dO).length = nest.length := List.length_map ..
    refine ⟨_, (pss_cons (ps_if (PW.pt (pw_or (pt_not (pt_val (pe_callB (r := rIsi K) call_isi (by rfl) T.isinstance (by decide +kernel) (pa_cons (pv 1) (pa_cons (pe_bltn (v := .ty "tuple") (by rfl) T.tuple (by decide +kernel) rfl) pa_nil))))) (pw_or1 (pt_cmpR (r := rNeD K) (op_neD hr.units) (pe_lc (own := [("x", 2)]) (g := (gName 2)) rfl sc_is_order.nd (pi_tup (pv 1)) (blkOk_by (N := n_is_order) (sc := defScope s_is_order) (by decide +kernel)) (fun _ _ _ _ _ => (pg_name (i := 2) sc_is_order.nd rfl (.inl rfl))) (fun _ _ _ _ _ => (pts_one (pt_not (pt_val (pe_call G_is_in (hr.mono (by decide)) (by rfl) D_is_in.g D_is_in.F.kp D_is_in.b .nil pass0 (pa_cons (pv 2) (pa_cons pe_int (pa_cons (pe_op op_sub (pe_callB (r := rLenS K) call_len_seq (by rfl) T.len PySem.boot_len (pa_cons (pv 0) pa_nil)) pe_int) pa_nil)))))))) (fun _ _ _ _ _ => (pv 2))) (pe_lst pa_nil) (nomark _))))) (pss_one (ps_ret pe_bl)) pss_nil)
      (pss_one (ps_ret (pe_cmpR (r := rEqD K) (op_eqD hr.units) (pe_callB (cr_srtT hr.units) (by rfl) T.sorted (by decide +kernel) (pa_cons (pv 1) pa_nil)) (pe_listRg rfl (by rfl) T.list (prg_1 (by rfl) T.range (pe_callB (r := rLenS K) call_len_seq (by rfl) T.len PySem.boot_len (pa_cons (pv 0) pa_nil)))) (nomark _))))), ?_⟩
    refine if_no ((yt_or (yt_not (yt_val (y_isi (y_var r2) kit_tt))) fun _ => yt_test (y_ne (y_lcT0 (y_var r2) (by omega) (fun _ => rfl) fun x hx v H1 s1 rx => ?_) (y_lst ya_nil (by decide)) ok_nil ok_nil)).cast rfl) fun H1 s1 => ?_
    · refine (yt_not (yt_val (y_call (ya_cons (y_var rx) (ya_cons y_int (ya_cons (y_sub (y_lent (y_var (r1.up s1))) y_int) ya_nil))) ⟨_, _, _, rfl, rfl⟩))).cast ?_
      rw [hl, in_range x _ (O.lt x hx)]
      rfl
    · refine ret_go ((y_eq (y_srtT (y_var (r2.up s1)) O.perm (range_sorted _) (by omega)) (y_listRg1 ((y_lent (y_var (r1.up s1))).cast (by rw [hl])) (by omega)) (ok_ln _) (ok_ln _)).cast ?_) fun v H2 s2 r2 => q v H2 (s1.trans s2) r2
      rw [ev_ll, decide_eq_true rfl]
abbrev s_need_order : Stmt := topS 19
abbrev n_need_order : List Str := ["nest", "order"]
theorem sc_need_order : FnScope n_need_order ["nest", "order"] (defScope s_need_order) := ⟨rfl, rfl, rfl, by decide +kernel, rfl, by decide +kernel, by decide +kernel⟩
def R_need_order (ds : List PyData) (d : PyData) : Prop := ∃ (nest : Nest) (order : List Nat), Valid nest ∧ IsOrder nest order ∧ ds = [nestD nest, .tuple (dNs order)] ∧ d = .none
abbrev D_need_order (K : PySem.W.Frag) (mg : Str → Option Value) := Def K mg "need_order" s_need_order ["nest", "order"]
theorem ok_need_order (D : D_need_order K mg f fd) (G_is_order : FnOk P w K mg base CX0 2 f1 fd1 ["nest", "value"] (PureR R_is_order)) (D_is_order : D_is_order K mg f1 fd1) : FnOk P w K mg base CX0 3 f fd ["nest", "order"] (PureR R_need_order) := by
  refine D.F.ok sc_need_order (fun vs H Q E h => ?_) (fun cdv A outer s H vs Q E hr h => ?_)
  · obtain ⟨ds, d, r, ⟨nest, order, hV, O, rfl, rfl⟩, _⟩ := h
    exact r.len
  · obtain ⟨ds, d, r, ⟨nest, order, hV, O, rfl, rfl⟩, q⟩ := h
    obtain ⟨v1, v2, rfl, r1, r2⟩ := r.two
    refine ⟨_, (pss_one (ps_if (pt_not (pt_val (pe_call G_is_order (hr.mono (by decide)) (by rfl) D_is_order.g D_is_order.F.kp D_is_order.b .nil pass0 (pa_cons (pv 0) (pa_cons (pv 1) pa_nil))))) (pss_one ps_never) pss_nil)), ?_⟩
    exact if1_no (ytc (b := !true) rfl (yt_not (yt_val (y_call (ya_cons (y_var r1) (ya_cons (y_var r2) ya_nil)) ⟨nest, order, hV, O, rfl, rfl⟩)))) fun H1 s1 => q _ H1 s1 .non
/-! ### ranks -/
abbrev s_rank_in : Stmt := topS 20
abbrev n_rank_in : List Str := ["nest", "order", "door", "some", "x"]
theorem sc_rank_in : FnScope n_rank_in ["nest", "order", "door"] (defScope s_rank_in) := ⟨rfl, rfl, rfl, by decide +kernel, rfl, by decide +kernel, by decide +kernel⟩
def R_rank_in (ds : List PyData) (d : PyData) : Prop := ∃ (nest : Nest) (order : List Nat) (k : Nat), Valid nest ∧ IsOrder nest order ∧ k < nest.length ∧ ds = [nestD nest, .tuple (dNs order), dN k] ∧ d = dN (rank nest order k)
abbrev D_rank_in (K : PySem.W.Frag) (mg : Str → Option Value) := Def K mg "rank_in" s_rank_in ["nest", "order", "door"]
theorem ok_rank_in (D : D_rank_in K mg f fd) (T : Top mg tk) (G_inside_in : FnOk P w K mg base CX0 2 f1 fd1 ["nest", "door"] (PureR R_inside_in)) (D_inside_in : D_inside_in K mg f1 fd1) :
    FnOk P w K mg base CX0 3 f fd ["nest", "order", "door"] (PureR R_rank_in) := by
  refine D.F.ok sc_rank_in (fun vs H Q E h => ?_) (fun cdv A outer s H vs Q E hr h => ?_)
  · obtain ⟨ds, d, r, ⟨nest, order, k, hV, O, hk, rfl, rfl⟩, _⟩ := h
    exact r.len
  · obtain ⟨ds, d, r, ⟨nest, order, k, hV, O, hk, rfl, rfl⟩, q⟩ := h
    obtain ⟨v1, v2, v3, rfl, r1, r2, r3⟩ := r.three
    have n2 := hV.few
    have ol := O.len
    refine ⟨_, (pss_cons (ps_set (i := 3) sc_rank_in.nd rfl (.inr rfl) (pe_call G_inside_in (hr.mono (by decide)) (by rfl) D_inside_in.g D_inside_in.F.kp D_inside_in.b .nil pass0 (pa_cons (pv 0) (pa_cons (pv 2) pa_nil))))
      (pss_one (ps_ret (pe_callB (r := rLenS K) call_len_seq (by rfl) T.len PySem.boot_len (pa_cons (pe_lc (own := [("x", 4)]) (g := (gName 4)) rfl sc_rank_in.nd (pi_tup (pe_slice (r := rSlF K) sl_tupF (pv 1) po_none (po_some (pe_bmF PySem.F.slot_tuple_index PySem.F.type_tuple_index mt_tidx (pv 1) (pa_cons (pv 2) pa_nil))))) (blkOk_by (N := n_rank_in) (sc := defScope s_rank_in) (by decide +kernel)) (fun _ _ _ _ _ => (pg_name (i := 4) sc_rank_in.nd rfl (.inl rfl))) (fun _ _ _ _ _ => (pts_one (pt_cmpR (r := rIn K false) op_in_seq (pv 4) (pv 3) (by rfl)))) (fun _ _ _ _ _ => (pv 4))) pa_nil))))), ?_⟩
    refine set_go (y_call (ya_cons (y_var r1) (ya_cons (y_var r3) ya_nil)) ⟨nest, k, hV, hk, rfl, rfl⟩) fun u H1 s1 ru => ?_
    refine ret_go (yc ?_ (y_len (y_lcT (xs := order.take (order.idxOf k)) (enc := dN) (p := fun x => (inside nest k).contains x) (f := dN) (yc ?_ (y_takeT (y_var (r2.up s1)) (y_idx (y_var (r2.up s1)) (ya_cons (y_var (r3.up s1)) ya_nil) (O.all k hk)))) ?_ (fun _ _ => rfl) (fun _ => rfl) fun x _ v H2 s2 rx => ⟨?_, fun _ => y_var rx⟩))) fun v H2 s2 rv => q v H2 (s1.trans s2) rv
    · rw [List.length_map]
      rfl
    · rw [List.map_take]
    · rw [List.length_take]; omega
    · exact ytc (any_ns _ _) (yt_test (y_in (y_var rx) (y_var (ru.up s2)) rfl (flat_ns _)))
abbrev s_ranks_in : Stmt := topS 21
abbrev n_ranks_in : List Str := ["nest", "order", "k"]
theorem sc_ranks_in : FnScope n_ranks_in ["nest", "order"] (defScope s_ranks_in) := ⟨rfl, rfl, rfl, by decide +kernel, rfl, by decide +kernel, by decide +kernel⟩
def R_ranks_in (ds : List PyData) (d : PyData) : Prop := ∃ (nest : Nest) (order : List Nat), Valid nest ∧ IsOrder nest order ∧ ds = [nestD nest, .tuple (dNs order)] ∧ d = .tuple (dNs (ranks nest order))
abbrev D_ranks_in (K : PySem.W.Frag) (mg : Str → Option Value) := Def K mg "ranks_in" s_ranks_in ["nest", "order"]
theorem ok_ranks_in (D : D_ranks_in K mg f fd) (T : Top mg tk) (G_rank_in : FnOk P w K mg base CX0 3 f1 fd1 ["nest", "order", "door"] (PureR R_rank_in)) (D_rank_in : D_rank_in K mg f1 fd1) :
    FnOk P w K mg base CX0 4 f fd ["nest", "order"] (PureR R_ranks_in) := by
  refine D.F.ok sc_ranks_in (fun vs H Q E h => ?_) (fun cdv A outer s H vs Q E hr h => ?_)
  · obtain ⟨ds, d, r, ⟨nest, order, hV, O, rfl, rfl⟩, _⟩ := h
    exact r.len
  · obtain ⟨ds, d, r, ⟨nest, order, hV, O, rfl, rfl⟩, q⟩ := h
    obtain ⟨v1, v2, rfl, r1, r2⟩ := r.two
    have n2 := hV.few
    have hl : (nest.map dO).length = nest.length := List.length_map ..
    refine ⟨_, (pss_one (ps_ret (pe_callTy (r := rTupS K) call_tupF (by rfl) T.tuple (by decide +kernel) (pa_cons (pe_lc (own := [("k", 2)]) (g := (gName 2)) rfl sc_ranks_in.nd (pi_range1 (by rfl) T.range (pa_cons (pe_callB (r := rLenS K) call_len_seq (by rfl) T.len PySem.boot_len (pa_cons (pv 0) pa_nil)) pa_nil)) (blkOk_by (N := n_ranks_in) (sc := defScope s_ranks_in) (by decide +kernel)) (fun _ _ _ _ _ => (pg_name (i := 2) sc_ranks_in.nd rfl (.inl rfl))) (fun _ _ _ _ _ => pts_nil) (fun _ _ _ _ _ => (pe_call G_rank_in (hr.mono (by decide)) (by rfl) D_rank_in.g D_rank_in.F.kp D_rank_in.b .nil pass0 (pa_cons (pv 0) (pa_cons (pv 1) (pa_cons (pv 2) pa_nil)))))) pa_nil)))), ?_⟩
    refine ret_go ((y_tupOf (y_lcR1 (ya_cons ((y_lent (y_var r1)).cast (by rw [hl])) ya_nil) (f := fun k => dN (rank nest order k)) (by omega) (fun _ _ => rfl) (fun _ => rfl) fun k hk H1 s1 => y_call (ya_cons (y_var (r1.up s1)) (ya_cons (y_var (r2.up s1)) (ya_cons (y_var (.int _)) ya_nil))) ⟨nest, order, k, hV, O, hk, rfl, rfl⟩)).cast ?_) q
    unfold ranks dNs
    rw [List.map_map (g := dN)]
    rfl
abbrev s_ranks : Stmt := topS 22
abbrev n_ranks : List Str := ["nest", "order"]
theorem sc_ranks : FnScope n_ranks ["nest", "order"] (defScope s_ranks) := ⟨rfl, rfl, rfl, by decide +kernel, rfl, by decide +kernel, by decide +kernel⟩
def R_ranks (ds : List PyData) (d : PyData) : Prop := R_ranks_in ds d
abbrev D_ranks (K : PySem.W.Frag) (mg : Str → Option Value) := Def K mg "ranks" s_ranks ["nest", "order"]
theorem ok_ranks (D : D_ranks K mg f fd) (G_need_nest : FnOk P w K mg base CX0 2 f1 fd1 ["nest"] (PureR R_need_nest)) (D_need_nest : D_need_nest K mg f1 fd1) (G_need_order : FnOk P w K mg base CX0 3 f2 fd2 ["nest", "order"] (PureR R_need_order)) (D_need_order : D_need_order K mg f2 fd2)
    (G_ranks_in : FnOk P w K mg base CX0 4 f3 fd3 ["nest", "order"] (PureR R_ranks_in)) (D_ranks_in : D_ranks_in K mg f3 fd3) : FnOk P w K mg base CX0 5 f fd ["nest", "order"] (PureR R_ranks) := by
  refine D.F.ok sc_ranks (fun vs H Q E h => ?_) (fun cdv A outer s H vs Q E hr h => ?_)
  · obtain ⟨ds, d, r, ⟨nest, order, hV, O, rfl, rfl⟩, _⟩ := h
    exact r.len
  · obtain ⟨ds, d, r, ⟨nest, order, hV, O, rfl, rfl⟩, q⟩ := h
    obtain ⟨v1, v2, rfl, r1, r2⟩ := r.two
    refine ⟨_, (pss_cons (ps_expr (pe_call G_need_nest (hr.mono (by decide)) (by rfl) D_need_nest.g D_need_nest.F.kp D_need_nest.b .nil pass0 (pa_cons (pv 0) pa_nil)))
      (pss_cons (ps_expr (pe_call G_need_order (hr.mono (by decide)) (by rfl) D_need_order.g D_need_order.F.kp D_need_order.b .nil pass0 (pa_cons (pv 0) (pa_cons (pv 1) pa_nil))))
      (pss_one (ps_ret (pe_call G_ranks_in (hr.mono (by decide)) (by rfl) D_ranks_in.g D_ranks_in.F.kp D_ranks_in.b .nil pass0 (pa_cons (pv 0) (pa_cons (pv 1) pa_nil))))))), ?_⟩
    refine expr_go (y_call (ya_cons (y_var r1) ya_nil) ⟨nest, hV, rfl, rfl⟩) fun H1 s1 => ?_
    refine expr_go (y_call (ya_cons (y_var (r1.up s1)) (ya_cons (y_var (r2.up s1)) ya_nil)) ⟨nest, order, hV, O, rfl, rfl⟩) fun H2 s2 => ?_
    have s12 := s1.trans s2
    exact ret_go (y_call (ya_cons (y_var (r1.up s12)) (ya_cons (y_var (r2.up s12)) ya_nil)) ⟨nest, order, hV, O, rfl, rfl⟩) fun v H3 s3 r3 => q v H3 (s12.trans s3) r3
abbrev s_is_ranks : Stmt := topS 23
abbrev n_is_ranks : List Str := ["nest", "value", "k", "size"]
theorem sc_is_ranks : FnScope n_is_ranks ["nest", "value"] (defScope s_is_ranks) := ⟨rfl, rfl, rfl, by decide +kernel, rfl, by decide +kernel, by decide +kernel⟩
def R_is_ranks (ds : List PyData) (d : PyData) : Prop := ∃ (nest : Nest) (lots : List Nat), Valid nest ∧ SizesOk nest ∧ lots.length = nest.length ∧ (∀ k, k < nest.length → lots.getD k 0 < (sizes nest).getD k 0) ∧ ds = [nestD nest, .tuple (dNs lots)] ∧ d = .bool true
abbrev D_is_ranks (K : PySem.W.Frag) (mg : Str → Option Value) := Def K mg "is_ranks" s_is_ranks ["nest", "value"]
theorem ok_is_ranks (D : D_is_ranks K mg f fd) (T : Top mg tk) (G_is_in : FnOk P w K mg base CX0 1 f1 fd1 ["value", "least", "most"] (PureR R_is_in)) (D_is_in : D_is_in K mg f1 fd1) (G_sizes_in : FnOk P w K mg base CX0 1 f2 fd2 ["nest"] (PureR R_sizes_in)) (D_sizes_in : D_sizes_in K mg f2 fd2) :
    FnOk P w K mg base CX0 2 f fd ["nest", "value"] (PureR R_is_ranks) := by
  refine D.F.ok sc_is_ranks (fun vs H Q E h => ?_) (fun cdv A outer s H vs Q E hr h => ?_)
  · obtain ⟨ds, d, r, ⟨nest, lots, hV, Z, hn, hb, rfl, rfl⟩, _⟩ := h
    exact r.len
  · obtain ⟨ds, d, r, ⟨nest, lots, hV, Z, hn, hb, rfl, rfl⟩, q⟩ := h
    obtain ⟨v1, v2, rfl, r1, r2⟩ := r.two
    have hl : (nest.map dO).length = nest.length := List.length_map ..
    have hl2 : (dNs lots).length = nest.length := by rw [List.length_map]; exact hn
    refine ⟨_, (pss_cons (ps_if (PW.pt (pw_or (pt_not (pt_val (pe_callB (r := rIsi K) call_isi (by rfl) T.isinstance (by decide +kernel) (pa_cons (pv 1) (pa_cons (pe_bltn (v := .ty "tuple") (by rfl) T.tuple (by decide +kernel) rfl) pa_nil))))) (pw_or1 (pt_cmpR (r := rNeD K) (op_neD hr.units) (pe_callB (r := rLenS K) call_len_seq (by rfl) T.len PySem.boot_len (pa_cons (pv 1) pa_nil)) (pe_callB (r := rLenS K) call_len_seq (by rfl) T.len PySem.boot_len (pa_cons (pv 0) pa_nil)) (nomark _))))) (pss_one (ps_ret pe_bl)) pss_nil)
      (pss_one (ps_ret (pe_cmpR (r := rEqD K) (op_eqD hr.units) (pe_lc (own := [("k", 2), ("size", 3)]) (g := (gTup K 2 (gCons (gName 2) (gCons (gName 3) gNil)))) rfl sc_is_ranks.nd (pi_enum (by rfl) T.enumerate (pa_cons (pe_call G_sizes_in (hr.mono (by decide)) (by rfl) D_sizes_in.g D_sizes_in.F.kp D_sizes_in.b .nil pass0 (pa_cons (pv 0) pa_nil)) pa_nil)) (blkOk_by (N := n_is_ranks) (sc := defScope s_is_ranks) (by decide +kernel)) (fun _ _ _ _ _ => (pg_tup rfl (pgs_cons (pg_name (i := 2) sc_is_ranks.nd rfl (.inl rfl)) (pgs_cons (pg_name (i := 3) sc_is_ranks.nd rfl (.inl rfl)) pgs_nil)))) (fun _ _ _ _ _ => (pts_one (pt_not (pt_val (pe_call G_is_in (hr.mono (by decide)) (by rfl) D_is_in.g D_is_in.F.kp D_is_in.b .nil pass0 (pa_cons (pe_ix (r := rIx K) ix_seq (pv 1) (pv 2) (fun _ _ => rfl)) (pa_cons pe_int (pa_cons (pe_op op_sub (pv 3) pe_int) pa_nil)))))))) (fun _ _ _ _ _ => (pv 2))) (pe_lst pa_nil) (nomark _))))), ?_⟩
    refine if_no ((yt_or (yt_not (yt_val (y_isi (y_var r2) kit_tt))) fun _ => yt_test (y_ne (y_lent (y_var r2)) (y_lent (y_var r1)) ok_int ok_int)).cast ?_) fun H1 s1 => ?_
    · rw [hl, hl2, ev_nn, decide_eq_true rfl]
      rfl
    · refine ret_go ((y_eq (y_lcE (xs := sizes nest) (enc := dN) (ya_cons (y_call (ya_cons (y_var (r1.up s1)) ya_nil) ⟨nest, hV, rfl, rfl⟩) ya_nil) (fun _ _ => rfl) fun k x hx v H2 s2 rx => ?_) (y_lst ya_nil (by decide)) ok_nil ok_nil).cast rfl) fun v H2 s2 rv => q v H2 (s1.trans s2) rv
      have hk : k < nest.length := by rw [← Z.1]; exact (List.getElem?_eq_some_iff.mp hx).1
      have ex : (sizes nest).getD k 0 = x := by rw [List.getD_eq_getElem?_getD, hx]; rfl
      have hlt := hb k hk
      rw [ex] at hlt
      refine (yt_not (yt_val (y_call (ya_cons (y_ixt (y_var ((r2.up s1).up s2)) (y_var (.int _)) (ns_atD (by rw [hn]; exact hk))) (ya_cons y_int (ya_cons (y_sub (y_var rx) y_int) ya_nil))) ⟨_, _, _, rfl, rfl⟩))).cast ?_
      rw [in_range _ _ hlt]
      rfl
end
end CD
set_option Elab.async false
set_option linter.all false
set_option maxRecDepth 100000
set_option maxHeartbeats 4000000
namespace CD
open PySem PySem.Spec L2
open PyProof.Rows hiding St
theorem ns_last {l : List Nat} (h : l ≠ []) : atI (dNs l) (-1) = some (dN (l.getLastD 0)) := by
  have e : l = l.dropLast ++ [l.getLast h] := (List.dropLast_concat_getLast h).symm
  have e2 : l.getLastD 0 = l.getLast h := by rw [List.getLastD_eq_getLast?, List.getLast?_eq_some_getLast h]; rfl
  rw [e2]
  conv => lhs; rw [e]
  unfold dNs
  rw [List.map_append]
  exact atI_last _ _
theorem rooms_dO (nest : Nest) : (rooms nest).map dO = dNs (List.range nest.length) ++ [.none] := by
  unfold rooms
  rw [List.map_append, List.map_map]
  rfl
def InRoom (nest : Nest) (room : Option Nat) (x : Nat) : Prop := room = none ∨ ∃ k, room = some k ∧ k ∈ around nest x
section
variable {P : Program} {w : World} {K : PySem.W.Frag} {mg : Str → Option Value} {base : Heap} {tk : Tok} {f f1 f2 f3 f4 f5 : Addr} {fd fd1 fd2 fd3 fd4 fd5 : FuncData}
/-! ### room_of -/
abbrev s_room_of : Stmt := topS 25
abbrev n_room_of : List Str := ["nest", "door", "room", "some", "x"]
theorem sc_room_of : FnScope n_room_of ["nest", "door", "room"] (defScope s_room_of) := ⟨rfl, rfl, rfl, by decide +kernel, rfl, by decide +kernel, by decide +kernel⟩
def R_room_of (ds : List PyData) (d : PyData) : Prop := ∃ (nest : Nest) (x : Nat) (room : Option Nat), Valid nest ∧ x < nest.length ∧ InRoom nest room x ∧ ds = [nestD nest, dN x, dO room] ∧ d = dN (roomOf nest x room)
abbrev D_room_of (K : PySem.W.Frag) (mg : Str → Option Value) := Def K mg "room_of" s_room_of ["nest", "door", "room"]
theorem ok_room_of (D : D_room_of K mg f fd) (G_around_in : FnOk P w K mg base CX0 1 f1 fd1 ["nest", "door"] (PureR R_around_in)) (D_around_in : D_around_in K mg f1 fd1) : FnOk P w K mg base CX0 2 f fd ["nest", "door", "room"] (PureR R_room_of) := by
  refine D.F.ok sc_room_of (fun vs H Q E h => ?_) (fun cdv A outer s H vs Q E hr h => ?_)
  · obtain ⟨ds, d, r, ⟨nest, x, room, hV, hx, hi, rfl, rfl⟩, _⟩ := h
    exact r.len
  · obtain ⟨ds, d, r, ⟨nest, x, room, hV, hx, hi, rfl, rfl⟩, q⟩ := h
    obtain ⟨v1, v2, v3, rfl, r1, r2, r3⟩ := r.three
    have n2 := hV.few
    have al := around_len hV x
    have hc : ∀ c ∈ chain nest x, c < nest.length := fun c h => by
      rcases List.mem_cons.mp h with z | z
      · rw [z]; exact hx
      · exact (around_lt hV z).2
    refine ⟨_, (pss_cons (ps_set (i := 3) sc_room_of.nd rfl (.inl rfl) (pe_op op_cat (pe_lst (pa_cons (pv 1) pa_nil)) (pe_call G_around_in (hr.mono (by decide)) (by rfl) D_around_in.g D_around_in.F.kp D_around_in.b .nil pass0 (pa_cons (pv 0) (pa_cons (pv 1) pa_nil)))))
      (pss_one (ps_ret (pe_ifExp (pt_cmpR op_isN (pv 2) pe_non (nomark _)) (pe_ix (r := rIx K) ix_seq (pv 3) (pe_un un_neg pe_int) (fun _ _ => rfl)) (pe_ix (r := rIx K) ix_seq (pe_lc (own := [("x", 4)]) (g := (gName 4)) rfl sc_room_of.nd (pi_list (pv 3)) (blkOk_by (N := n_room_of) (sc := defScope s_room_of) (by decide +kernel)) (fun _ _ _ _ _ => (pg_name (i := 4) sc_room_of.nd rfl (.inl rfl))) (fun _ _ _ _ _ => (pts_one (pt_cmpR (r := rEqD K) (op_eqD hr.units) (pe_ix (r := rIx K) ix_seq (pv 0) (pv 4) (fun _ _ => rfl)) (pv 2) (nomark _)))) (fun _ _ _ _ _ => (pv 4))) pe_int (fun _ _ => rfl)))))), ?_⟩
    refine set_go (d := .list (dNs (chain nest x))) (y_cat (y_lst (ya_cons (y_var r2) ya_nil) (by simp)) (y_call (ya_cons (y_var r1) (ya_cons (y_var r2) ya_nil)) ⟨nest, x, hV, hx, rfl, rfl⟩) ?_) fun u H1 s1 ru => ?_
    · rw [List.length_map]
      show 1 + _ ≤ 1000
      omega
    · refine ret_go (y_if (b := room.isNone) (ytc (ev_on room) (yt_test (y_isN (y_var (r3.up s1)) y_non))) (fun hn => ?_) (fun hn => ?_)) fun v H2 s2 rv => q v H2 (s1.trans s2) rv
      · obtain rfl : room = none := Option.isNone_iff_eq_none.mp hn
        exact y_ix (y_var ru) (y_neg y_int) (ns_last (List.cons_ne_nil _ _))
      · obtain ⟨k, rfl⟩ : ∃ k, room = some k := by
          cases room with
          | none => cases hn
          | some k => exact ⟨k, rfl⟩
        refine y_ix (y_lc (xs := chain nest x) (enc := dN) (p := fun c => decide (up nest c = some k)) (f := dN) (y_var ru) ?_ (fun _ _ => rfl) (fun _ => rfl) fun c hcm v H2 s2 rx => ⟨?_, fun _ => y_var rx⟩) y_int ?_
        · unfold chain; rw [List.length_cons]; omega
        · refine ytc (ev_oo _ _) (yt_test (y_eq (y_ixt (y_var ((r1.up s1).up s2)) (y_var rx) (nest_at (hc c hcm))) (y_var ((r3.up s1).up s2)) (ok_o _) (ok_o (some k))))
        · obtain ⟨a, b⟩ := room_has hV x hi
          have hm : roomOf nest x (some k) ∈ (chain nest x).filter fun c => decide (up nest c = some k) := List.mem_filter.mpr ⟨a, decide_eq_true b⟩
          exact ns_atD (k := 0) (List.length_pos_of_mem hm)
/-! ### rooms, within -/
abbrev s_rooms : Stmt := topS 26
abbrev n_rooms : List Str := ["nest"]
theorem sc_rooms : FnScope n_rooms ["nest"] (defScope s_rooms) := ⟨rfl, rfl, rfl, by decide +kernel, rfl, by decide +kernel, by decide +kernel⟩
def R_rooms (ds : List PyData) (d : PyData) : Prop := ∃ nest : Nest, Valid nest ∧ ds = [nestD nest] ∧ d = .list ((rooms nest).map dO)
abbrev D_rooms (K : PySem.W.Frag) (mg : Str → Option Value) := Def K mg "rooms" s_rooms ["nest"]
theorem ok_rooms (D : D_rooms K mg f fd) (T : Top mg tk) : FnOk P w K mg base CX0 1 f fd ["nest"] (PureR R_rooms) := by
  refine D.F.ok sc_rooms (fun vs H Q E h => ?_) (fun cdv A outer s H vs Q E hr h => ?_)
  · obtain ⟨ds, d, r, ⟨nest, hV, rfl, rfl⟩, _⟩ := h
    exact r.len
  · obtain ⟨ds, d, r, ⟨nest, hV, rfl, rfl⟩, q⟩ := h
    obtain ⟨v1, rfl, r1⟩ := r.one
    have n2 := hV.few
    have hl : (nest.map dO).length = nest.length := List.length_map ..
    refine ⟨_, (pss_one (ps_ret (pe_op op_cat (pe_listRg rfl (by rfl) T.list (prg_1 (by rfl) T.range (pe_callB (r := rLenS K) call_len_seq (by rfl) T.len PySem.boot_len (pa_cons (pv 0) pa_nil)))) (pe_lst (pa_cons pe_non pa_nil))))), ?_⟩
    refine ret_go (yc (by rw [rooms_dO]) (y_cat (y_listRg1 (yc (by rw [hl]) (y_lent (y_var r1))) (by omega)) (y_lst (ya_cons y_non ya_nil) (by decide)) ?_)) q
    rw [List.length_map, List.length_range]
    show _ + 1 ≤ 1000
    omega
abbrev s_within : Stmt := topS 27
abbrev n_within : List Str := ["nest", "room"]
theorem sc_within : FnScope n_within ["nest", "room"] (defScope s_within) := ⟨rfl, rfl, rfl, by decide +kernel, rfl, by decide +kernel, by decide +kernel⟩
def R_within (ds : List PyData) (d : PyData) : Prop := ∃ (nest : Nest) (room : Option Nat), Valid nest ∧ (∀ k, room = some k → k < nest.length) ∧ ds = [nestD nest, dO room] ∧ d = .list (dNs (within nest room))
abbrev D_within (K : PySem.W.Frag) (mg : Str → Option Value) := Def K mg "within" s_within ["nest", "room"]
theorem ok_within (D : D_within K mg f fd) (T : Top mg tk) (G_inside_in : FnOk P w K mg base CX0 2 f1 fd1 ["nest", "door"] (PureR R_inside_in)) (D_inside_in : D_inside_in K mg f1 fd1) : FnOk P w K mg base CX0 3 f fd ["nest", "room"] (PureR R_within) := by
  refine D.F.ok sc_within (fun vs H Q E h => ?_) (fun cdv A outer s H vs Q E hr h => ?_)
  · obtain ⟨ds, d, r, ⟨nest, room, hV, hk, rfl, rfl⟩, _⟩ := h
    exact r.len
  · obtain ⟨ds, d, r, ⟨nest, room, hV, hk, rfl, rfl⟩, q⟩ := h
    obtain ⟨v1, v2, rfl, r1, r2⟩ := r.two
    have n2 := hV.few
    have hl : (nest.map dO).length = nest.length := List.length_map ..
    refine ⟨_, (pss_one (ps_ret (pe_ifExp (pt_cmpR op_isN (pv 1) pe_non (nomark _)) (pe_listRg rfl (by rfl) T.list (prg_1 (by rfl) T.range (pe_callB (r := rLenS K) call_len_seq (by rfl) T.len PySem.boot_len (pa_cons (pv 0) pa_nil)))) (pe_call G_inside_in (hr.mono (by decide)) (by rfl) D_inside_in.g D_inside_in.F.kp D_inside_in.b .nil pass0 (pa_cons (pv 0) (pa_cons (pv 1) pa_nil)))))), ?_⟩
    refine ret_go (y_if (b := room.isNone) (ytc (ev_on room) (yt_test (y_isN (y_var r2) y_non))) (fun hn => ?_) (fun hn => ?_)) q
    · obtain rfl : room = none := Option.isNone_iff_eq_none.mp hn
      exact y_listRg1 (yc (by rw [hl]) (y_lent (y_var r1))) (by omega)
    · obtain ⟨k, rfl⟩ : ∃ k, room = some k := by
        cases room with
        | none => cases hn
        | some k => exact ⟨k, rfl⟩
      exact y_call (ya_cons (y_var r1) (ya_cons (y_var r2) ya_nil)) ⟨nest, k, hV, hk k rfl, rfl, rfl⟩
/-! ### words_of -/
abbrev s_words_of : Stmt := topS 28
abbrev n_words_of : List Str := ["nest", "order", "found", "room", "some", "x"]
theorem sc_words_of : FnScope n_words_of ["nest", "order"] (defScope s_words_of) := ⟨rfl, rfl, rfl, by decide +kernel, rfl, by decide +kernel, by decide +kernel⟩
abbrev wordsD (words : List (List Nat)) : PyData := .tuple (words.map fun w => .tuple (dNs w))
def R_words_of (ds : List PyData) (d : PyData) : Prop := ∃ (nest : Nest) (order : List Nat), Valid nest ∧ IsOrder nest order ∧ ds = [nestD nest, .tuple (dNs order)] ∧ d = wordsD (wordsOf nest order)
abbrev D_words_of (K : PySem.W.Frag) (mg : Str → Option Value) := Def K mg "words_of" s_words_of ["nest", "order"]
theorem noLs_ns (l : List Nat) : noLs (dNs l) = true := noLs_map fun _ _ => rfl
theorem ok_words_of (D : D_words_of K mg f fd) (T : Top mg tk) (G_need_nest : FnOk P w K mg base CX0 2 f1 fd1 ["nest"] (PureR R_need_nest)) (D_need_nest : D_need_nest K mg f1 fd1) (G_need_order : FnOk P w K mg base CX0 3 f2 fd2 ["nest", "order"] (PureR R_need_order)) (D_need_order : D_need_order K mg f2 fd2)
    (G_rooms : FnOk P w K mg base CX0 1 f3 fd3 ["nest"] (PureR R_rooms)) (D_rooms : D_rooms K mg f3 fd3) (G_within : FnOk P w K mg base CX0 3 f4 fd4 ["nest", "room"] (PureR R_within)) (D_within : D_within K mg f4 fd4)
    (G_room_of : FnOk P w K mg base CX0 2 f5 fd5 ["nest", "door", "room"] (PureR R_room_of)) (D_room_of : D_room_of K mg f5 fd5) : FnOk P w K mg base CX0 4 f fd ["nest", "order"] (PureR R_words_of) := by
  refine D.F.ok sc_words_of (fun vs H Q E h => ?_) (fun cdv A outer s H vs Q E hr h => ?_)
  · obtain ⟨ds, d, r, ⟨nest, order, hV, O, rfl, rfl⟩, _⟩ := h
    exact r.len
  · obtain ⟨ds, d, r, ⟨nest, order, hV, O, rfl, rfl⟩, q⟩ := h
    obtain ⟨v1, v2, rfl, r1, r2⟩ := r.two
    have n2 := hV.few
    have ol := O.len
    refine ⟨_, (pss_cons (ps_expr (pe_call G_need_nest (hr.mono (by decide)) (by rfl) D_need_nest.g D_need_nest.F.kp D_need_nest.b .nil pass0 (pa_cons (pv 0) pa_nil)))
      (pss_cons (ps_expr (pe_call G_need_order (hr.mono (by decide)) (by rfl) D_need_order.g D_need_order.F.kp D_need_order.b .nil pass0 (pa_cons (pv 0) (pa_cons (pv 1) pa_nil))))
      (pss_cons (ps_set (i := 2) sc_words_of.nd rfl (.inl rfl) (pe_lst pa_nil))
      (pss_cons (ps_for PassesOwn.never rfl (pi_list (pe_call G_rooms (hr.mono (by decide)) (by rfl) D_rooms.g D_rooms.F.kp D_rooms.b .nil pass0 (pa_cons (pv 0) pa_nil))) (pg_name (i := 3) sc_words_of.nd rfl (.inr rfl)) (pss_cons (ps_set (i := 4) sc_words_of.nd rfl (.inr rfl) (pe_call G_within (hr.mono (by decide)) (by rfl) D_within.g D_within.F.kp D_within.b .nil pass0 (pa_cons (pv 0) (pa_cons (pv 3) pa_nil))))
      (pss_one (ps_expr (pe_bm PySem.F.plainAttrs_list PySem.F.slot_list_append PySem.F.type_list_append mt_append (pv 2) (pa_cons (pe_callTy (r := rTupS K) call_tupF (by rfl) T.tuple (by decide +kernel) (pa_cons (pe_lc (own := [("x", 5)]) (g := (gName 5)) rfl sc_words_of.nd (pi_tup (pv 1)) (blkOk_by (N := n_words_of) (sc := defScope s_words_of) (by decide +kernel)) (fun _ _ _ _ _ => (pg_name (i := 5) sc_words_of.nd rfl (.inl rfl))) (fun _ _ _ _ _ => (pts_one (pt_cmpR (r := rIn K false) op_in_seq (pv 5) (pv 4) (by rfl)))) (fun _ _ _ _ _ => (pe_call G_room_of (hr.mono (by decide)) (by rfl) D_room_of.g D_room_of.F.kp D_room_of.b .nil pass0 (pa_cons (pv 0) (pa_cons (pv 5) (pa_cons (pv 3) pa_nil)))))) pa_nil)) pa_nil))))))
      (pss_one (ps_ret (pe_callTy (r := rTupS K) call_tupF (by rfl) T.tuple (by decide +kernel) (pa_cons (pv 2) pa_nil)))))))), ?_⟩
    refine expr_go (y_call (ya_cons (y_var r1) ya_nil) ⟨nest, hV, rfl, rfl⟩) fun H1 s1 => ?_
    refine expr_go (y_call (ya_cons (y_var (r1.up s1)) (ya_cons (y_var (r2.up s1)) ya_nil)) ⟨nest, order, hV, O, rfl, rfl⟩) fun H2 s2 => ?_
    have s02 := s1.trans s2
    -- found = []
    refine ⟨Nat.zero_le _, fun p np => ?_⟩
    have np0 := s02.free np
    have s3 : Same H2 (upd H2 p (.lst [])) := same_new np
    have s03 := s02.trans s3
    -- for room in rooms(nest)
    refine (y_call (R := R_rooms) (ya_cons (y_var (r1.up s03)) ya_nil) ⟨nest, hV, rfl, rfl⟩).go fun u H4 s4 ru => ?_
    obtain ⟨ra, rs, rfl, g1, g2⟩ := ru.toLst
    have hrs := repAll_o g2
    have rl : rs.length = nest.length + 1 := by rw [hrs, List.length_map]; unfold rooms; rw [List.length_append, List.length_map, List.length_range]; rfl
    have s04 := s03.trans s4
    refine ⟨ra, rfl, ⟨rs, SqL.of g1⟩, for_list (xs := rs) (fun i σ H5 => ∃ y3 y4 y5 acc, σ = [some v1, some v2, some (.ref p), y3, y4, y5] ∧ Same H H5 ∧ H5 ra = some (.lst rs) ∧ H5 p = some (.lst acc) ∧ RepAll H5 acc ((((rooms nest).take i).map (word nest order)).map fun w => PyData.tuple (dNs w)))
      ⟨none, none, none, [], rfl, s04, g1, s4 _ _ upd_same, .nil⟩ (fun i σ H5 _ ⟨_, _, _, _, _, _, e, _, _⟩ => SqL.of e) ?_ ?_⟩
    · rintro i x σ H5 hx ⟨y3, y4, y5, acc, rfl, s5, hra, hp, rac⟩
      have hi : i < (rooms nest).length := by
        have := (List.getElem?_eq_some_iff.mp hx).1
        rw [hrs, List.length_map] at this
        exact this
      obtain ⟨room, hroom⟩ : ∃ room, (rooms nest)[i]? = some room := ⟨_, List.getElem?_eq_getElem hi⟩
      have ex : x = vO room := by
        rw [hrs, List.getElem?_map, hroom] at hx
        exact (Option.some.inj hx).symm
      subst ex
      have hrk : ∀ k, room = some k → k < nest.length := fun k e => by
        subst e
        have hm := List.mem_of_getElem? hroom
        unfold rooms at hm
        rcases List.mem_append.mp hm with z | z
        · obtain ⟨j, hj, e⟩ := List.mem_map.mp z
          cases e
          exact List.mem_range.mp hj
        · cases List.mem_singleton.mp z
      have rr : ∀ {H' : Hp}, Rep H' (vO room) (dO room) := fun {H'} => rep_vO room
      -- some = within(nest, room)
      refine set_go (y_call (R := R_within) (ya_cons (y_var (i := 0) (r1.up s5)) (ya_cons (y_var (i := 3) (v := vO room) rr) ya_nil)) ⟨nest, room, hV, hrk, rfl, rfl⟩) fun u H6 s6 ru => ?_
      have s06 := s5.trans s6
      -- found.append(tuple([..]))
      refine ⟨.ref p, rfl, .inl ⟨rfl, _, SqL.of (s6 _ _ hp)⟩, ?_⟩
      refine (y_tupOf (yc (e := .list (dNs (word nest order room))) (by unfold word dNs; rw [List.map_map (g := dN)]; rfl) (y_lcT (xs := order) (enc := dN) (p := fun x => (within nest room).contains x) (f := fun x => dN (roomOf nest x room)) (y_var (i := 1) (r2.up s06)) (by omega) (fun _ _ => rfl) (fun _ => rfl) fun x hx v H7 s7 rx => ⟨?_, fun hw => ?_⟩))).go fun v H7 s7 rv => ?_
      · exact ytc (any_ns _ _) (yt_test (y_in (y_var rx) (y_var (i := 4) (ru.up s7)) rfl (flat_ns _)))
      · exact y_call (ya_cons (y_var (i := 0) (r1.up (s06.trans s7))) (ya_cons (y_var rx) (ya_cons (y_var (i := 3) rr) ya_nil))) ⟨nest, x, room, hV, O.lt x hx, (mem_within hV (O.lt x hx)).mp (List.contains_iff_mem.mp hw), rfl, rfl⟩
      · have hp7 := s7 _ _ (s6 _ _ hp)
        have ra7 := rac.up (s6.trans s7)
        refine ⟨p, acc, v, rfl, rfl, hp7, ?_, _, _, _, _, rfl, fun b o e => ?_, ?_, upd_same, ?_⟩
        · rw [rac.len, List.length_map, List.length_map]
          have := List.length_take_le i (rooms nest)
          have rl2 : rs.length = (rooms nest).length := by rw [hrs, List.length_map]
          exact small1000 (by omega)
        · rw [upd_ne (ne_of_none e np0)]
          exact s7 _ _ (s06 _ _ e)
        · have hne : ra ≠ p := fun z => by
            rw [z] at hra
            have q1 := s4 _ _ (upd_same (H := H2) (a := p) (o := .lst []))
            rw [← z, g1] at q1
            cases q1
            simp at rl
          rw [upd_ne hne]
          exact s7 _ _ (s6 _ _ hra)
        · have e : ((((rooms nest).take (i + 1)).map (word nest order)).map fun w => PyData.tuple (dNs w)) = ((((rooms nest).take i).map (word nest order)).map fun w => PyData.tuple (dNs w)) ++ [.tuple (dNs (word nest order room))] := by
            rw [List.take_add_one, hroom, List.map_append, List.map_append]
            rfl
          rw [e]
          refine (ra7.changeT (tups_upd hp7) (noLs_map (f := fun w => PyData.tuple (dNs w)) fun w _ => noLs_ns w)).app (.cons (rv.changeT (tups_upd hp7) (noLs_ns _)) .nil)
    · rintro σ H5 ⟨y3, y4, y5, acc, rfl, s5, hra, hp, rac⟩
      have el : (rooms nest).take rs.length = rooms nest := List.take_of_length_le (by rw [hrs, List.length_map]; exact Nat.le_refl _)
      rw [el] at rac
      exact ret_go (y_tupOf (y_var (v := .ref p) (.lst hp rac))) fun v H6 s6 rv => q v H6 (s5.trans s6) rv
end
end CD
set_option Elab.async false
set_option linter.all false
set_option maxRecDepth 100000
set_option maxHeartbeats 4000000
namespace CD
open PySem PySem.Spec L2
open PyProof.Rows hiding St
/-! ### due, step by step -/
def dueTo (nest : Nest) (room : Option Nat) (i : Nat) : List Nat := ((List.range i).filter fun k => decide (up nest k = room)).flatMap fun k => List.replicate ((sizes nest).getD k 0) k
theorem due_eq (nest : Nest) (room : Option Nat) : due nest room = dueTo nest room nest.length := rfl
theorem dueTo_succ (nest : Nest) (room : Option Nat) (i : Nat) : dueTo nest room (i + 1) = dueTo nest room i ++ if up nest i = room then List.replicate ((sizes nest).getD i 0) i else [] := by
  unfold dueTo
  rw [List.range_succ, List.filter_append, List.flatMap_append]
  congr 1
  by_cases h : up nest i = room
  · rw [if_pos h, List.filter_cons_of_pos (by simp [h])]
    simp
  · rw [if_neg h, List.filter_cons_of_neg (by simp [h])]
    rfl
theorem size_le {nest : Nest} (hV : Valid nest) (Z : SizesOk nest) {k : Nat} (hk : k < nest.length) : (sizes nest).getD k 0 ≤ 9 := by
  rw [Z.2 k hk]
  unfold inside
  have := List.length_filter_le (fun j => (around nest j).contains k) (List.range k)
  rw [List.length_range] at this
  have := hV.few
  omega
theorem dueTo_len {nest : Nest} (hV : Valid nest) (Z : SizesOk nest) (room : Option Nat) : ∀ i, i ≤ nest.length → (dueTo nest room i).length ≤ 9 * i
  | 0, _ => Nat.le_refl _
  | i + 1, h => by
    have ih := dueTo_len hV Z room i (by omega)
    have := size_le hV Z (k := i) h
    rw [dueTo_succ, List.length_append]
    by_cases e : up nest i = room
    · rw [if_pos e, List.length_replicate]; omega
    · rw [if_neg e, List.length_nil]; omega
theorem due_small {nest : Nest} (hV : Valid nest) (Z : SizesOk nest) (room : Option Nat) : (due nest room).length ≤ 81 := by
  have := dueTo_len hV Z room nest.length (Nat.le_refl _)
  have := hV.few
  rw [due_eq]
  omega
theorem due_lt {nest : Nest} {room : Option Nat} {x : Nat} (h : x ∈ due nest room) : x < nest.length := by
  obtain ⟨k, hk, hx⟩ := List.mem_flatMap.mp h
  rw [(List.mem_replicate.mp hx).2]
  exact List.mem_range.mp (List.mem_filter.mp hk).1
theorem flat_rep (m k : Nat) : (List.replicate m [dN k]).flatten = dNs (List.replicate m k) := by
  induction m with
  | zero => rfl
  | succ m ih => rw [List.replicate_succ, List.flatten_cons, ih, List.replicate_succ]; rfl
section
variable {P : Program} {w : World} {K : PySem.W.Frag} {mg : Str → Option Value} {base : Heap} {tk : Tok} {f f1 f2 f3 f4 f5 : Addr} {fd fd1 fd2 fd3 fd4 fd5 : FuncData}
/-! ### is_word -/
abbrev s_is_word : Stmt := topS 29
abbrev n_is_word : List Str := ["nest", "value", "room", "due", "k", "size", "x"]
theorem sc_is_word : FnScope n_is_word ["nest", "value", "room"] (defScope s_is_word) := ⟨rfl, rfl, rfl, by decide +kernel, rfl, by decide +kernel, by decide +kernel⟩
def R_is_word (ds : List PyData) (d : PyData) : Prop := ∃ (nest : Nest) (wd : List Nat) (room : Option Nat), Valid nest ∧ SizesOk nest ∧ wd.Perm (due nest room) ∧ ds = [nestD nest, .tuple (dNs wd), dO room] ∧ d = .bool true
abbrev D_is_word (K : PySem.W.Frag) (mg : Str → Option Value) := Def K mg "is_word" s_is_word ["nest", "value", "room"]
theorem ok_is_word (D : D_is_word K mg f fd) (T : Top mg tk) (G_is_in : FnOk P w K mg base CX0 1 f1 fd1 ["value", "least", "most"] (PureR R_is_in)) (D_is_in : D_is_in K mg f1 fd1) (G_sizes_in : FnOk P w K mg base CX0 1 f2 fd2 ["nest"] (PureR R_sizes_in)) (D_sizes_in : D_sizes_in K mg f2 fd2) :
    FnOk P w K mg base CX0 2 f fd ["nest", "value", "room"] (PureR R_is_word) := by
  refine D.F.ok sc_is_word (fun vs H Q E h => ?_) (fun cdv A outer s H vs Q E hr h => ?_)
  · obtain ⟨ds, d, r, ⟨nest, wd, room, hV, Z, hp, rfl, rfl⟩, _⟩ := h
    exact r.len
  · obtain ⟨ds, d, r, ⟨nest, wd, room, hV, Z, hp, rfl, rfl⟩, q⟩ := h
    obtain ⟨v1, v2, v3, rfl, r1, r2, r3⟩ := r.three
    have hl : (nest.map dO).length = nest.length := List.length_map ..
    have wl : wd.length ≤ 81 := by rw [hp.length_eq]; exact due_small hV Z room
    refine ⟨_, (pss_cons (ps_if (PW.pt (pw_or (pt_not (pt_val (pe_callB (r := rIsi K) call_isi (by rfl) T.isinstance (by decide +kernel) (pa_cons (pv 1) (pa_cons (pe_bltn (v := .ty "tuple") (by rfl) T.tuple (by decide +kernel) rfl) pa_nil))))) (pw_or1 (pt_cmpR (r := rNeD K) (op_neD hr.units) (pe_lc (own := [("x", 6)]) (g := (gName 6)) rfl sc_is_word.nd (pi_tup (pv 1)) (blkOk_by (N := n_is_word) (sc := defScope s_is_word) (by decide +kernel)) (fun _ _ _ _ _ => (pg_name (i := 6) sc_is_word.nd rfl (.inl rfl))) (fun _ _ _ _ _ => (pts_one (pt_not (pt_val (pe_call G_is_in (hr.mono (by decide)) (by rfl) D_is_in.g D_is_in.F.kp D_is_in.b .nil pass0 (pa_cons (pv 6) (pa_cons pe_int (pa_cons (pe_op op_sub (pe_callB (r := rLenS K) call_len_seq (by rfl) T.len PySem.boot_len (pa_cons (pv 0) pa_nil)) pe_int) pa_nil)))))))) (fun _ _ _ _ _ => (pv 6))) (pe_lst pa_nil) (nomark _))))) (pss_one (ps_ret pe_bl)) pss_nil)
      (pss_cons (ps_set (i := 3) sc_is_word.nd rfl (.inl rfl) (pe_lst pa_nil))
      (pss_cons (ps_for PassesOwn.never rfl (pi_enum (by rfl) T.enumerate (pa_cons (pe_call G_sizes_in (hr.mono (by decide)) (by rfl) D_sizes_in.g D_sizes_in.F.kp D_sizes_in.b .nil pass0 (pa_cons (pv 0) pa_nil)) pa_nil)) (pg_tup rfl (pgs_cons (pg_name (i := 4) sc_is_word.nd rfl (.inl rfl)) (pgs_cons (pg_name (i := 5) sc_is_word.nd rfl (.inl rfl)) pgs_nil))) (pss_one (ps_if (pt_cmpR (r := rEqD K) (op_eqD hr.units) (pe_ix (r := rIx K) ix_seq (pv 0) (pv 4) (fun _ _ => rfl)) (pv 2) (nomark _)) (pss_one (ps_set (i := 3) sc_is_word.nd rfl (.inl rfl) (pe_op op_cat (pv 3) (pe_op op_rep (pe_lst (pa_cons (pv 4) pa_nil)) (pv 5))))) pss_nil)))
      (pss_one (ps_ret (pe_cmpR (r := rEqD K) (op_eqD hr.units) (pe_callB (cr_srtT hr.units) (by rfl) T.sorted (by decide +kernel) (pa_cons (pv 1) pa_nil)) (pv 3) (nomark _))))))), ?_⟩
    refine if_no ((yt_or (yt_not (yt_val (y_isi (y_var r2) kit_tt))) fun _ => yt_test (y_ne (y_lcT0 (y_var r2) (by omega) (fun _ => rfl) fun x hx v H1 s1 rx => ?_) (y_lst ya_nil (by decide)) ok_nil ok_nil)).cast rfl) fun H1 s1 => ?_
    · refine (yt_not (yt_val (y_call (ya_cons (y_var rx) (ya_cons y_int (ya_cons (y_sub (y_lent (y_var (r1.up s1))) y_int) ya_nil))) ⟨_, _, _, rfl, rfl⟩))).cast ?_
      rw [hl, in_range x _ (due_lt (hp.mem_iff.mp hx))]
      rfl
    · refine set_go (d := .list (dNs [])) (y_lst ya_nil (by decide)) fun u H2 s2 ru => ?_
      have s02 := s1.trans s2
      refine (y_call (R := R_sizes_in) (ya_cons (y_var (i := 0) (r1.up s02)) ya_nil) ⟨nest, hV, rfl, rfl⟩).go fun sv H3 s3 rsv => ?_
      obtain ⟨sa, ss, rfl, g1, g2⟩ := rsv.toLst
      have hss := repAll_n g2
      have sl : ss.length = nest.length := by rw [hss, List.length_map]; exact Z.1
      refine ⟨sa, ss, rfl, SqL.of g1, for_enumL (xs := ss) (fun i σ H4 => ∃ y3 y4 y5 y6, σ = [some v1, some v2, some v3, some y3, y4, y5, y6] ∧ Same H3 H4 ∧ Rep H4 y3 (.list (dNs (dueTo nest room i)))) ⟨u, none, none, none, rfl, Same.refl _, ru.up s3⟩ (fun i σ H4 _ ⟨_, _, _, _, _, s4, _⟩ => SqL.of (s4 _ _ g1)) ?_ ?_⟩
      · rintro i x T' σ H4 hx ⟨y3, y4, y5, y6, rfl, s4, ry⟩ nT
        have hi : i < nest.length := by rw [← sl]; exact (List.getElem?_eq_some_iff.mp hx).1
        have ex : x = .int (((sizes nest).getD i 0 : Nat) : Int) := by
          rw [hss, List.getElem?_map, List.getElem?_eq_getElem (by rw [Z.1]; exact hi)] at hx
          rw [List.getD_eq_getElem?_getD, List.getElem?_eq_getElem (by rw [Z.1]; exact hi)]
          exact (Option.some.inj hx).symm
        subst ex
        refine gpair ?_
        have sT := same_new (H := H4) (o := .tup [.int (i : Nat), .int (((sizes nest).getD i 0 : Nat) : Int)]) nT
        have s5 := s4.trans sT
        have s05 := s02.trans (s3.trans s5)
        rw [dueTo_succ]
        have sm := size_le hV Z hi
        have dl := dueTo_len hV Z room i (Nat.le_of_lt hi)
        have n9 := hV.few
        refine if_go (ytc (ev_oo _ _) (yt_test (y_eq (y_ixt (y_var (i := 0) (r1.up s05)) (y_var (i := 4) (v := .int (i : Nat)) (.int _)) (nest_at hi)) (y_var (i := 2) (r3.up s05)) (ok_o _) (ok_o _)))) (fun hb H6 s6 => ?_) (fun hb H6 s6 => ?_)
        · have e := of_decide_eq_true hb
          rw [if_pos e]
          refine set1_go (yc (e := .list (dNs (dueTo nest room i ++ List.replicate ((sizes nest).getD i 0) i))) ?_ (y_cat (y_var (i := 3) (ry.up (sT.trans s6))) (y_rep (y_lst (ya_cons (y_var (i := 4) (v := .int (i : Nat)) (.int _)) ya_nil) (by simp)) (y_var (i := 5) (.int _)) ?_ (by omega)) ?_)) fun v H7 s7 rv => ⟨_, _, _, _, rfl, (s5.trans s6).trans s7, rv⟩
          · rw [flat_rep]
            unfold dNs
            rw [List.map_append]
          · rw [List.length_singleton]; omega
          · rw [flat_rep, List.length_map, List.length_map, List.length_replicate]
            omega
        · rw [if_neg (of_decide_eq_false hb), List.append_nil]
          exact ⟨_, _, _, _, rfl, s5.trans s6, ry.up (sT.trans s6)⟩
      · rintro σ H4 ⟨y3, y4, y5, y6, rfl, s4, ry⟩
        have s04 := s02.trans (s3.trans s4)
        rw [sl, ← due_eq] at ry
        refine ret_go ((y_eq (y_srtT (y_var (i := 1) (r2.up s04)) hp.symm (due_sorted nest room) (by omega)) (y_var (i := 3) ry) (ok_ln _) (ok_ln _)).cast ?_) fun v H5 s5 rv => q v H5 (s04.trans s5) rv
        rw [ev_ll, decide_eq_true rfl]
/-! ### is_words -/
abbrev s_is_words : Stmt := topS 30
abbrev n_is_words : List Str := ["nest", "value", "k", "room"]
theorem sc_is_words : FnScope n_is_words ["nest", "value"] (defScope s_is_words) := ⟨rfl, rfl, rfl, by decide +kernel, rfl, by decide +kernel, by decide +kernel⟩
def WordsOk (nest : Nest) (words : List (List Nat)) : Prop := words.length = nest.length + 1 ∧ ∀ (k : Nat) room, (rooms nest)[k]? = some room → (words.getD k []).Perm (due nest room)
def R_is_words (ds : List PyData) (d : PyData) : Prop := ∃ (nest : Nest) (words : List (List Nat)), Valid nest ∧ SizesOk nest ∧ WordsOk nest words ∧ ds = [nestD nest, wordsD words] ∧ d = .bool true
abbrev D_is_words (K : PySem.W.Frag) (mg : Str → Option Value) := Def K mg "is_words" s_is_words ["nest", "value"]
theorem words_at {words : List (List Nat)} {k : Nat} (h : k < words.length) : atI (words.map fun w => PyData.tuple (dNs w)) (k : Int) = some (.tuple (dNs (words.getD k []))) := by
  refine atI_nat ?_
  rw [List.getElem?_map, List.getD_eq_getElem?_getD, List.getElem?_eq_getElem h]
  rfl
theorem rooms_len (nest : Nest) : (rooms nest).length = nest.length + 1 := by
  unfold rooms
  rw [List.length_append, List.length_map, List.length_range]
  rfl
theorem ok_is_words (D : D_is_words K mg f fd) (T : Top mg tk) (G_rooms : FnOk P w K mg base CX0 1 f1 fd1 ["nest"] (PureR R_rooms)) (D_rooms : D_rooms K mg f1 fd1) (G_is_word : FnOk P w K mg base CX0 2 f2 fd2 ["nest", "value", "room"] (PureR R_is_word)) (D_is_word : D_is_word K mg f2 fd2) :
    FnOk P w K mg base CX0 3 f fd ["nest", "value"] (PureR R_is_words) := by
  refine D.F.ok sc_is_words (fun vs H Q E h => ?_) (fun cdv A outer s H vs Q E hr h => ?_)
  · obtain ⟨ds, d, r, ⟨nest, words, hV, Z, W, rfl, rfl⟩, _⟩ := h
    exact r.len
  · obtain ⟨ds, d, r, ⟨nest, words, hV, Z, ⟨W1, W2⟩, rfl, rfl⟩, q⟩ := h
    obtain ⟨v1, v2, rfl, r1, r2⟩ := r.two
    have hl : (nest.map dO).length = nest.length := List.length_map ..
    have hl2 : (words.map fun w => PyData.tuple (dNs w)).length = nest.length + 1 := by rw [List.length_map]; exact W1
    refine ⟨_, (pss_cons (ps_if (PW.pt (pw_or (pt_not (pt_val (pe_callB (r := rIsi K) call_isi (by rfl) T.isinstance (by decide +kernel) (pa_cons (pv 1) (pa_cons (pe_bltn (v := .ty "tuple") (by rfl) T.tuple (by decide +kernel) rfl) pa_nil))))) (pw_or1 (pt_cmpR (r := rNeD K) (op_neD hr.units) (pe_callB (r := rLenS K) call_len_seq (by rfl) T.len PySem.boot_len (pa_cons (pv 1) pa_nil)) (pe_op op_add (pe_callB (r := rLenS K) call_len_seq (by rfl) T.len PySem.boot_len (pa_cons (pv 0) pa_nil)) pe_int) (nomark _))))) (pss_one (ps_ret pe_bl)) pss_nil)
      (pss_one (ps_ret (pe_cmpR (r := rEqD K) (op_eqD hr.units) (pe_lc (own := [("k", 2), ("room", 3)]) (g := (gTup K 2 (gCons (gName 2) (gCons (gName 3) gNil)))) rfl sc_is_words.nd (pi_enum (by rfl) T.enumerate (pa_cons (pe_call G_rooms (hr.mono (by decide)) (by rfl) D_rooms.g D_rooms.F.kp D_rooms.b .nil pass0 (pa_cons (pv 0) pa_nil)) pa_nil)) (blkOk_by (N := n_is_words) (sc := defScope s_is_words) (by decide +kernel)) (fun _ _ _ _ _ => (pg_tup rfl (pgs_cons (pg_name (i := 2) sc_is_words.nd rfl (.inl rfl)) (pgs_cons (pg_name (i := 3) sc_is_words.nd rfl (.inl rfl)) pgs_nil)))) (fun _ _ _ _ _ => (pts_one (pt_not (pt_val (pe_call G_is_word (hr.mono (by decide)) (by rfl) D_is_word.g D_is_word.F.kp D_is_word.b .nil pass0 (pa_cons (pv 0) (pa_cons (pe_ix (r := rIx K) ix_seq (pv 1) (pv 2) (fun _ _ => rfl)) (pa_cons (pv 3) pa_nil)))))))) (fun _ _ _ _ _ => (pv 2))) (pe_lst pa_nil) (nomark _))))), ?_⟩
    refine if_no ((yt_or (yt_not (yt_val (y_isi (y_var r2) kit_tt))) fun _ => yt_test (y_ne (y_lent (y_var r2)) (y_add (y_lent (y_var r1)) y_int) ok_int ok_int)).cast ?_) fun H1 s1 => ?_
    · rw [hl, hl2]
      show (!true || !(((nest.length + 1 : Nat) : Int) == (nest.length : Int) + 1)) = false
      simp
    · refine ret_go ((y_eq (y_lcE (xs := rooms nest) (enc := dO) (ya_cons (y_call (ya_cons (y_var (r1.up s1)) ya_nil) ⟨nest, hV, rfl, rfl⟩) ya_nil) (fun _ _ => rfl) fun k room hx v H2 s2 rx => ?_) (y_lst ya_nil (by decide)) ok_nil ok_nil).cast rfl) fun v H2 s2 rv => q v H2 (s1.trans s2) rv
      have hk : k < words.length := by
        rw [W1, ← rooms_len]
        exact (List.getElem?_eq_some_iff.mp hx).1
      exact (yt_not (yt_val (y_call (ya_cons (y_var ((r1.up s1).up s2)) (ya_cons (y_ixt (y_var ((r2.up s1).up s2)) (y_var (.int _)) (words_at hk)) (ya_cons (y_var rx) ya_nil))) ⟨nest, _, room, hV, Z, W2 k room hx, rfl, rfl⟩))).cast rfl
end
end CD
set_option Elab.async false
set_option linter.all false
set_option maxRecDepth 100000
set_option maxHeartbeats 4000000
namespace CD
open PySem PySem.Spec L2
open PyProof.Rows hiding St
/-! ### tables of numbers -/
abbrev kN (n : Nat) : Key := Sum.inl (n : Int)
theorem kN_inj {a b : Nat} (h : kN a = kN b) : a = b := by injection h with h; exact Int.ofNat.inj h
theorem valV_many {f : Nat → V} (k : Nat) : ∀ (xs : List Nat) (acc : List (Key × V)), valV (mergeK acc (xs.map fun x => (kN x, f x))) (kN k) = if k ∈ xs then some (f k) else valV acc (kN k)
  | [], acc => by rw [if_neg (by simp)]; rfl
  | x :: xs, acc => by
    show valV (mergeK (putK acc (kN x) (f x)) (xs.map fun x => (kN x, f x))) (kN k) = _
    rw [valV_many k xs, valV_put]
    by_cases h : k ∈ xs
    · rw [if_pos h, if_pos (List.mem_cons_of_mem _ h)]
    · rw [if_neg h]
      by_cases e : k = x
      · subst e
        rw [if_pos rfl, if_pos List.mem_cons_self]
      · rw [if_neg (fun z => e (kN_inj z)), if_neg fun z => (List.mem_cons.mp z).elim e h]
theorem valV_zero (k : Key) : ∀ (kvs acc : List (Key × V)), valV (mergeK acc (kvs.map fun kv => (kv.1, V.int 0))) k = if (valV kvs k).isSome = true then some (.int 0) else valV acc k
  | [], acc => by rw [if_neg (by simp [valV])]; rfl
  | p :: kvs, acc => by
    show valV (mergeK (putK acc p.1 (.int 0)) (kvs.map fun kv => (kv.1, V.int 0))) k = _
    rw [valV_zero k kvs, valV_put]
    by_cases e : p.1 = k
    · rw [valV_pos e, if_pos e.symm]
      by_cases q : (valV kvs k).isSome = true
      · rw [if_pos q]; rfl
      · rw [if_neg q]; rfl
    · have z : (if k = p.1 then some (V.int 0) else valV acc k) = valV acc k := if_neg fun z => e z.symm
      rw [valV_neg e, z]
theorem mixed_get {p : Nat → List Nat} : ∀ {w seen res : List Nat}, mixed p w seen = some res → res.length = w.length ∧ ∀ (i k : Nat), w[i]? = some k → ∃ x, res[i]? = some x ∧ (p k)[(seen ++ w.take i).count k]? = some x
  | [], seen, res, h => by cases h; exact ⟨rfl, fun i k hk => by simp at hk⟩
  | k :: w, seen, res, h => by
    have h' : (match (p k)[seen.count k]? with | none => none | some x => (mixed p w (seen ++ [k])).map (x :: ·)) = some res := h
    cases e : (p k)[seen.count k]? with
    | none => rw [e] at h'; cases h'
    | some x =>
      rw [e] at h'
      have h2 : (mixed p w (seen ++ [k])).map (x :: ·) = some res := h'
      obtain ⟨r, hr, er⟩ := Option.map_eq_some_iff.mp h2
      subst er
      obtain ⟨a, b⟩ := mixed_get hr
      refine ⟨congrArg Nat.succ a, fun i k' hk => ?_⟩
      cases i with
      | zero =>
        have : k = k' := by simpa using hk
        subst this
        exact ⟨x, rfl, by simpa using e⟩
      | succ i =>
        obtain ⟨y, h1, h2⟩ := b i k' (by simpa using hk)
        exact ⟨y, by simpa using h1, by simpa [List.append_assoc] using h2⟩
abbrev vNs (l : List Nat) : List V := l.map fun n : Nat => V.int (n : Int)
/-- what the table holds of the parts -/
def PartsAt (H : Hp) (kvs : List (Key × V)) (p : Nat → List Nat) : Prop := ∀ k, p k ≠ [] → ∃ l, valV kvs (kN k) = some (.ref l) ∧ H l = some (.lst (vNs (p k)))
section
variable {P : Program} {w : World} {K : PySem.W.Frag} {mg : Str → Option Value} {base : Heap} {tk : Tok} {f f1 f2 f3 f4 f5 : Addr} {fd fd1 fd2 fd3 fd4 fd5 : FuncData}
/-! ### mixed -/
abbrev s_mixed : Stmt := topS 31
abbrev n_mixed : List Str := ["parts", "word", "k", "found", "at"]
theorem sc_mixed : FnScope n_mixed ["parts", "word"] (defScope s_mixed) := ⟨rfl, rfl, rfl, by decide +kernel, rfl, by decide +kernel, by decide +kernel⟩
def spMixed : Sp := fun vs H Q _ => ∃ (a : Addr) (v : V) (kvs : List (Key × V)) (p : Nat → List Nat) (wd res : List Nat), vs = [.ref a, v] ∧ H a = some (.dK kvs) ∧ kvs.length ≤ 100 ∧ wd.length ≤ 100 ∧ Rep H v (.tuple (dNs wd)) ∧ PartsAt H kvs p ∧
  mixed p wd [] = some res ∧ ∀ u H', Same H H' → Rep H' u (.list (dNs res)) → Q u H'
abbrev D_mixed (K : PySem.W.Frag) (mg : Str → Option Value) := Def K mg "mixed" s_mixed ["parts", "word"]
theorem ok_mixed (D : D_mixed K mg f fd) (T : Top mg tk) : FnOk P w K mg base CX0 1 f fd ["parts", "word"] spMixed := by
  refine D.F.ok sc_mixed (fun vs H Q E h => ?_) (fun cdv A outer s H vs Q E hr h => ?_)
  · obtain ⟨a, v, kvs, p, wd, res, rfl, _⟩ := h
    rfl
  · obtain ⟨a, v, kvs, p, wd, res, rfl, ha, hk, hw, rw, hp, hm, qq⟩ := h
    obtain ⟨b, ob, xs, rfl, g1, g0, g2⟩ := rw.toTup
    have hxs := repAll_n g2
    have xl : xs.length = wd.length := by rw [hxs, List.length_map]
    obtain ⟨rl, rg⟩ := mixed_get hm
    refine ⟨_, (pss_cons (ps_par (i := 3) (j := 4) (by rfl) sc_mixed.nd rfl rfl (by decide) rfl rfl (pa_cons (pe_lst pa_nil) (pa_cons (pe_callTy (call_dictP rfl) (by rfl) T.dict (by decide +kernel) (pa_cons (pe_lock (pe_lc (own := [("k", 2)]) (g := (gName 2)) rfl sc_mixed.nd (pi_keysM (pv 0)) (blkOk_by (N := n_mixed) (sc := defScope s_mixed) (by decide +kernel)) (fun _ _ _ _ _ => (pg_name (i := 2) sc_mixed.nd rfl (.inl rfl))) (fun _ _ _ _ _ => pts_nil) (fun _ _ _ _ _ => (pe_tupF (pa_cons (pv 2) (pa_cons pe_int pa_nil)))))) pa_nil)) pa_nil)) (by rfl))
      (pss_cons (ps_for PassesOwn.never rfl (pi_tup (pv 1)) (pg_name (i := 2) sc_mixed.nd rfl (.inl rfl)) (pss_cons (ps_expr (pe_bm PySem.F.plainAttrs_list PySem.F.slot_list_append PySem.F.type_list_append mt_append (pv 3) (pa_cons (pe_ix (r := rIx K) ix_seq (pe_dget (hu_of hr) (pv 0) (pv 2) (fun _ _ => rfl)) (pe_dget (hu_of hr) (pv 4) (pv 2) (fun _ _ => rfl)) (fun _ _ => rfl)) pa_nil)))
      (pss_one (ps_daug (hu_of hr) (pv 4) (pv 2) pe_int in_add (fun _ _ _ => rfl)))))
      (pss_one (ps_ret (pv 3))))), ?_⟩
    -- found = []
    refine ⟨Nat.zero_le _, fun p0 np => ?_⟩
    have s1 : Same H (upd H p0 (.lst [])) := same_new np
    have a1 := s1 _ _ ha
    -- [(k, 0) for k in parts.keys()], the parts locked
    refine ⟨a, .dK kvs, a1, trivial, fun od => ⟨.ref a, rfl, a, od, kvs, rfl, upd_same, fun D nD => lc_it walk_keys (fun i H3 => ∃ ps : List Addr, Same (upd (upd H p0 (.lst [])) a (.frz od (.dK kvs))) H3 ∧ H3 D = some (.lst (ps.map V.ref)) ∧
        Paired (fun q kv => ∃ o, H3 q = some (.frz o (.tup [kV kv.1, kv.2]))) ps ((kvs.take i).map fun kv => (kv.1, V.int 0))) ⟨[], same_new nD, upd_same, .nil⟩ (fun i H3 _ ⟨_, s3, _, _⟩ => s3 _ _ upd_same) ?_ ?_⟩⟩
    · rintro i x H3 H' hi ⟨ps, s3, hD, hq⟩ ⟨rfl, k, v, hkv, rfl⟩
      refine ⟨rfl, ?_⟩
      unfold tYes
      refine iteT ⟨kV k, rfl, (by decide : 2 ≤ sizeLine), fun q o nq hd => ⟨ps.map V.ref, ?_, ?_, ps ++ [q], fun b' u e => ?_, ?_, ?_⟩⟩
      · rw [upd_ne (ne_of_none hD nq)]; exact hD
      · rw [List.length_map, hq.length, List.length_map]
        refine small1000 (Nat.le_trans (List.length_take_le _ _) ?_)
        omega
      · rw [upd_ne (ne_of_none e nD), upd_ne (ne_of_none (s3 _ _ e) nq)]
        exact s3 _ _ e
      · rw [upd_same, List.map_append]; rfl
      · rw [List.take_add_one, hkv, List.map_append]
        refine Paired.snoc (Paired.mapP hq fun c kv ⟨o', e⟩ => ⟨o', ?_⟩) ⟨o, ?_⟩
        · have c1 : c ≠ D := fun z => by rw [z, hD] at e; cases e
          rw [upd_ne c1, upd_ne (ne_of_none e nq)]
          exact e
        · have c1 : q ≠ D := fun z => by rw [z, hD] at nq; cases nq
          rw [upd_ne c1, upd_same]
    · rintro H3 ⟨ps, s3, hD, hq⟩
      have a3 : H3 a = some (.frz od (.dK kvs)) := s3 _ _ upd_same
      have nDa : D ≠ a := fun z => by rw [z, a3] at hD; cases hD
      have s4 : Same (upd H p0 (.lst [])) (upd H3 a (.dK kvs)) := fun b' u e => by
        by_cases z : b' = a
        · subst z
          rw [a1] at e
          rw [upd_same]
          exact e
        · rw [upd_ne z]
          exact s3 _ _ (by rw [upd_ne z]; exact e)
      refine ⟨a3, D, ps, kvs.map fun kv => (kv.1, V.int 0), rfl, SqL.of (by rw [upd_ne nDa]; exact hD), ?_, fun q nq => ?_⟩
      · rw [List.take_of_length_le (Nat.le_refl _)] at hq
        refine Paired.mapP hq fun c kv ⟨o', e⟩ => sqF (o := o') ?_
        have c1 : c ≠ a := fun z => by rw [z, a3] at e; cases e
        rw [upd_ne c1]
        exact e
      -- for k in word
      have s5 : Same (upd H p0 (.lst [])) (upd (upd H3 a (.dK kvs)) q (.dK (mergeK [] (kvs.map fun kv => (kv.1, V.int 0))))) := s4.trans (same_new nq)
      refine ⟨_, _, rfl, .ref b, rfl, b, rfl, ⟨xs, sqF (s5 _ _ (s1 _ _ g1))⟩, for_tup (xs := xs) (fun i σ Hn => ∃ y2 atl, σ = [some (.ref a), some (.ref b), y2, some (.ref p0), some (.ref q)] ∧ Same H Hn ∧ Hn p0 = some (.lst (vNs (res.take i))) ∧ Hn q = some (.dK atl) ∧
          atl.length ≤ kvs.length + i ∧ ∀ k, (valV kvs (kN k)).isSome = true → valV atl (kN k) = some (.int (((wd.take i).count k : Nat) : Int)))
        ⟨none, _, rfl, s1.trans s5, s5 _ _ upd_same, upd_same, ?_, fun k hk => ?_⟩ (fun i σ Hn _ ⟨_, _, _, sn, _⟩ => sqF (sn _ _ g1)) ?_ ?_⟩
      · have := length_mergeK (kvs.map fun kv => (kv.1, V.int 0)) []
        rw [List.length_map] at this
        simpa using this
      · rw [valV_zero, if_pos hk]
        rfl
      · rintro i x σ Hn hx ⟨y2, atl, rfl, sn, h0, hq2, hl, hv⟩
        have hi : i < wd.length := by rw [← xl]; exact (List.getElem?_eq_some_iff.mp hx).1
        obtain ⟨k, hki⟩ : ∃ k, wd[i]? = some k := ⟨_, List.getElem?_eq_getElem hi⟩
        have ex : x = .int (k : Int) := by
          rw [hxs, List.getElem?_map, hki] at hx
          exact (Option.some.inj hx).symm
        subst ex
        obtain ⟨y, r1, r2⟩ := rg i k hki
        rw [List.nil_append] at r2
        have hne : p k ≠ [] := fun z => by rw [z] at r2; simp at r2
        obtain ⟨l, l1, l2⟩ := hp k hne
        have hvk := hv k (by rw [l1]; rfl)
        have ga : DGet Hn a (.int (k : Int)) (some (.ref l)) := by
          have := DGet.k (k := kN k) (sn _ _ ha)
          rw [l1] at this
          exact this
        have gq : DGet Hn q (.int (k : Int)) (some (.int (((wd.take i).count k : Nat) : Int))) := by
          have := DGet.k (k := kN k) hq2
          rw [hvk] at this
          exact this
        have hll := sn _ _ l2
        refine ⟨.ref p0, rfl, .inl ⟨rfl, _, SqL.of h0⟩, .ref a, rfl, .int (k : Int), rfl, a, .ref l, rfl, ga, .ref q, rfl, .int (k : Int), rfl, q, _, rfl, gq, .inl ⟨l, _, _, .int (y : Int), rfl, rfl, SqL.of hll, atI_nat (by rw [List.getElem?_map, r2]; rfl), ?_⟩⟩
        have rl2 : (res.take i).length ≤ 100 := Nat.le_trans (List.length_take_le _ _) (by omega)
        have e0 : vNs (res.take (i + 1)) = vNs (res.take i) ++ [.int (y : Int)] := by
          unfold vNs
          rw [List.take_add_one, r1, List.map_append]
          rfl
        have nqp : q ≠ p0 := fun z => by rw [z, h0] at hq2; cases hq2
        refine ⟨p0, _, _, rfl, rfl, h0, by rw [List.length_map]; exact small1000 (by omega), ?_⟩
        have hq3 : upd Hn p0 (.lst (vNs (res.take i) ++ [.int (y : Int)])) q = some (.dK atl) := by rw [upd_ne nqp]; exact hq2
        have gq3 : DGet (upd Hn p0 (.lst (vNs (res.take i) ++ [.int (y : Int)]))) q (.int (k : Int)) (some (.int (((wd.take i).count k : Nat) : Int))) := by
          have := DGet.k (k := kN k) hq3
          rw [hvk] at this
          exact this
        refine ⟨.ref q, rfl, .int (k : Int), rfl, q, _, rfl, gq3, _, _, rfl, rfl, _, DPut.k (k := kN k) hq3 (small1000 (by omega)), _, _, rfl, fun b' u e => ?_, ?_, upd_same, ?_, fun j hj => ?_⟩
        · have z1 : b' ≠ q := fun z => by
            have z2 := (s1.trans s4).free nq
            rw [← z, e] at z2
            cases z2
          rw [upd_ne z1, upd_ne (ne_of_none e np)]
          exact sn _ _ e
        · rw [upd_ne nqp.symm, upd_same, e0]
        · have := length_putK atl (kN k) (.int (((wd.take i).count k : Nat) + 1 : Int))
          omega
        · rw [valV_put, List.take_add_one, hki, List.count_append]
          by_cases e : j = k
          · subst e
            rw [if_pos rfl]
            simp
          · rw [if_neg (fun z => e (kN_inj z)), hv j hj]
            have : ¬ k = j := fun z => e z.symm
            simp [this]
      · rintro σ Hn ⟨y2, atl, rfl, sn, h0, hq2, hl, hv⟩
        refine ⟨_, rfl, qq _ Hn sn (.lst h0 ?_)⟩
        rw [List.take_of_length_le (by omega)]
        exact repAll_of_n _
end
end CD
set_option Elab.async false
set_option linter.all false
set_option maxRecDepth 100000
set_option maxHeartbeats 4000000
namespace CD
open PySem PySem.Spec L2
open PyProof.Rows hiding St
/-! ### the table of the parts -/
def PD (H : Hp) (pd : Addr) (parts : List (List Nat)) : Prop := ∃ kvs : List (Key × V), H pd = some (.dK kvs) ∧ kvs.length ≤ parts.length ∧ ∀ (x : Nat) xs, parts[x]? = some xs → ∃ l, valV kvs (kN x) = some (.ref l) ∧ H l = some (.lst (vNs xs))
theorem PD.up {H H' : Hp} {pd : Addr} {parts : List (List Nat)} (h : PD H pd parts) (s : Same H H') : PD H' pd parts :=
  let ⟨kvs, a, b, c⟩ := h
  ⟨kvs, s _ _ a, b, fun x xs e => let ⟨l, l1, l2⟩ := c x xs e; ⟨l, l1, s _ _ l2⟩⟩
theorem words_last {words : List (List Nat)} {n : Nat} (h : words.length = n + 1) : atI (words.map fun w => PyData.tuple (dNs w)) (-1) = some (.tuple (dNs (words.getD n []))) := by
  have h0 : words ≠ [] := fun z => by rw [z] at h; simp at h
  have e : words = words.dropLast ++ [words.getLast h0] := (List.dropLast_concat_getLast h0).symm
  have e2 : words.getD n [] = words.getLast h0 := by
    rw [List.getD_eq_getElem?_getD, List.getLast_eq_getElem, List.getElem?_eq_getElem (by omega)]
    show words[n] = _
    congr 1
    omega
  rw [e2]
  conv => lhs; rw [e]
  rw [List.map_append]
  exact atI_last _ _
abbrev rDictP (K : PySem.W.Frag) : List V → Hp → VK → Prop := fun xs H Q => ∃ (a : Addr) (ps : List Addr) (kvs : List (Key × V)), xs = [.ref a] ∧ SqL K H a (ps.map V.ref) ∧ Paired (fun p kv => SqT K H p [kV kv.1, kv.2]) ps kvs ∧ ∀ p, H p = none → Q (.ref p) (upd H p (.dK (mergeK [] kvs)))
theorem y_mixed {K : PySem.W.Frag} {ta : TA} {tw : TE} {tt : TT} {σ : L2.St} {H : Hp} {pd : Addr} {parts : List (List Nat)} {n i j : Nat} {nest : Nest} {room : Option Nat} {vs : List Nat} {E : XK} {res wd : List Nat}
    (hs : YA ta σ H [dN n]) (hn : n ≤ 100) (hpl : parts.length = n) (hp : PD H pd parts) (hj : ∀ v, ((wipe σ vs).set i (some v))[j]? = some (some (.ref pd))) (hi : ∀ v, ((wipe σ vs).set i (some v))[i]? = some (some v))
    (hw : ∀ v, wipe ((wipe σ vs).set i (some v)) vs = wipe σ vs) (hb : ∀ x, x < n → ∀ H1, Same H H1 → YT tt ((wipe σ vs).set i (some (.int (x : Int)))) H1 (decide (up nest x = room)))
    (hwd : Y tw σ H (.tuple (dNs wd))) (h100 : wd.length ≤ 100) (hm : mixed (kids nest room parts) wd [] = some res) :
    Y (tCall spMixed [] E (tCons (tCB (rDictP K) (tCons (tLc (iRng1 ta) (gName i) tt (tTupF (tCons (tVar i) (tCons (tDGet (tVar j) (tVar i)) tNil))) vs) tNil)) (tCons tw tNil))) σ H (.list (dNs res)) := fun H1 s Q qq =>
  hs H1 s _ fun ws H2 s2 r => by
    obtain ⟨w, rfl, rw⟩ := r.one
    obtain ⟨kvs, k1, k2, k3⟩ := hp.up (s.trans s2)
    refine ⟨(n : Int), by rw [rw.toInt], by omega, by omega, fun D nD => lc_range (lo := 0) (n := n) (fun k H3 => ∃ ps : List Addr, Same H2 H3 ∧ H3 D = some (.lst (ps.map V.ref)) ∧
        Paired (fun q kv => ∃ o, H3 q = some (.frz o (.tup [kV kv.1, kv.2]))) ps ((((List.range n).take k).filter fun x => decide (up nest x = room)).map fun x => (kN x, (valV kvs (kN x)).getD .non))) ⟨[], same_new nD, upd_same, .nil⟩ (fun k H3 hk h => ?_) fun H3 h => ?_⟩
    · obtain ⟨ps, s3, hD, hq⟩ := h
      have hx : (List.range n)[k]? = some k := List.getElem?_range hk
      obtain ⟨xs, hxs⟩ : ∃ xs, parts[k]? = some xs := ⟨_, List.getElem?_eq_getElem (by omega)⟩
      obtain ⟨l, l1, l2⟩ := k3 k xs hxs
      rw [Int.zero_add]
      refine ⟨hw _, (hb k hk H3 ((s.trans s2).trans s3)).go fun H4 s4 => ?_⟩
      have hD4 := s4 _ _ hD
      have e := take_filter_map (f := fun x => (kN x, (valV kvs (kN x)).getD .non)) (p := fun x => decide (up nest x = room)) hx
      by_cases hu : up nest k = room
      · rw [decide_eq_true hu]
        have g : DGet H4 pd (.int (k : Int)) (some (.ref l)) := by
          have := DGet.k (k := kN k) (s4 _ _ (s3 _ _ k1))
          rw [l1] at this
          exact this
        refine iteT ⟨_, hi _, .ref pd, hj _, _, hi _, pd, .ref l, rfl, g, (by decide : 2 ≤ sizeLine), fun q o nq hd => ⟨ps.map V.ref, ?_, ?_, ps ++ [q], fun b' u e => ?_, ?_, ?_⟩⟩
        · rw [upd_ne (ne_of_none hD4 nq)]; exact hD4
        · rw [List.length_map, hq.length, List.length_map]
          refine small1000 (Nat.le_trans (List.length_filter_le _ _) (Nat.le_trans (List.length_take_le _ _) ?_))
          omega
        · rw [upd_ne (ne_of_none e nD), upd_ne (ne_of_none (s4 _ _ (s3 _ _ e)) nq)]
          exact s4 _ _ (s3 _ _ e)
        · rw [upd_same, List.map_append]; rfl
        · rw [e, if_pos (decide_eq_true hu)]
          refine Paired.snoc (Paired.mapP hq fun c kv ⟨o', e⟩ => ⟨o', ?_⟩) ⟨o, ?_⟩
          · have c1 : c ≠ D := fun z => by rw [z, hD] at e; cases e
            rw [upd_ne c1, upd_ne (ne_of_none (s4 _ _ e) nq)]
            exact s4 _ _ e
          · have c1 : q ≠ D := fun z => by rw [z, hD4] at nq; cases nq
            rw [upd_ne c1, upd_same, l1]
            rfl
      · rw [decide_eq_false hu]
        refine iteF ⟨ps, s3.trans s4, hD4, ?_⟩
        rw [e, if_neg (by rw [decide_eq_false hu]; decide), List.append_nil]
        exact Paired.mapP hq fun c kv ⟨o', e⟩ => ⟨o', s4 _ _ e⟩
    · obtain ⟨ps, s3, hD, hq⟩ := h
      rw [List.take_of_length_le (by rw [List.length_range]; exact Nat.le_refl _)] at hq
      refine ⟨D, ps, _, rfl, SqL.of hD, Paired.mapP hq fun c kv ⟨o', e⟩ => sqF e, fun q nq => ?_⟩
      have s4 := s3.trans (same_new (o := .dK (mergeK [] (((List.range n).filter fun x => decide (up nest x = room)).map fun x => (kN x, (valV kvs (kN x)).getD .non)))) nq)
      refine hwd _ ((s.trans s2).trans s4) _ fun v H5 s5 rv => ?_
      refine ⟨q, v, _, kids nest room parts, wd, res, rfl, s5 _ _ upd_same, ?_, h100, rv, fun k hk => ?_, hm, fun u H' s' ru => qq u H' (s2.trans (s4.trans (s5.trans s'))) ru⟩
      · refine Nat.le_trans (length_mergeK _ _) ?_
        rw [List.length_map, List.length_nil, Nat.zero_add]
        refine Nat.le_trans (List.length_filter_le _ _) ?_
        rw [List.length_range]
        exact hn
      · unfold kids at hk ⊢
        by_cases hu : up nest k = room
        · rw [if_pos hu] at hk ⊢
          have hkl : k < parts.length := Nat.lt_of_not_le fun z => hk (by rw [List.getD_eq_getElem?_getD, List.getElem?_eq_none z]; rfl)
          have hpk : parts[k]? = some (parts.getD k []) := by rw [List.getD_eq_getElem?_getD, List.getElem?_eq_getElem hkl]; rfl
          obtain ⟨l, l1, l2⟩ := k3 k _ hpk
          refine ⟨l, ?_, s5 _ _ (s4 _ _ l2)⟩
          rw [valV_many, if_pos (List.mem_filter.mpr ⟨List.mem_range.mpr (by omega), decide_eq_true hu⟩), l1]
          rfl
        · rw [if_neg hu] at hk
          exact absurd rfl hk
section
variable {P : Program} {w : World} {K : PySem.W.Frag} {mg : Str → Option Value} {base : Heap} {tk : Tok} {f f1 f2 f3 f4 f5 : Addr} {fd fd1 fd2 fd3 fd4 fd5 : FuncData}
/-! ### loops and new tables, by their data -/
theorem dnew_go {u : TS} {D : Ends} {σ : L2.St} {H : Hp} {i : Nat} (q : ∀ p, H p = none → u D (σ.set i (some (.ref p))) (upd H p (.dK []))) : tSeq (tAsg tDNewK (gName i)) u D σ H := q
theorem for_rng_go {ta : TA} {g : TG} {tb : TS} {D : Ends} {σ : L2.St} {H : Hp} {n : Nat} (y : YA ta σ H [dN n]) (hn : n ≤ 1000) (Pv : Nat → L2.St → Hp → Prop) (h0 : ∀ H', Same H H' → Pv 0 σ H')
    (hs : ∀ i σ H, i < n → Pv i σ H → g (.int (i : Int)) σ H fun σ2 H2 => tb { D with nx := Pv (i + 1), ct := Pv (i + 1), bk := D.nx } σ2 H2) (hd : ∀ σ H, Pv n σ H → D.nx σ H) : tFor (iRng1 ta) g tb D σ H :=
  y.go fun ws H1 s1 rw => by
    obtain ⟨u, rfl, ru⟩ := rw.one
    exact ⟨(n : Int), by rw [ru.toInt], by omega, by omega, for_range (lo := 0) (n := n) Pv (h0 H1 s1) (fun i σ H hi p => by rw [Int.zero_add]; exact hs i σ H hi p) hd⟩
/-! ### order_of -/
abbrev s_order_of : Stmt := topS 32
abbrev n_order_of : List Str := ["nest", "some", "words", "parts", "k", "inner", "x"]
theorem sc_order_of : FnScope n_order_of ["nest", "some", "words"] (defScope s_order_of) := ⟨rfl, rfl, rfl, by decide +kernel, rfl, by decide +kernel, by decide +kernel⟩
def R_order_of (ds : List PyData) (d : PyData) : Prop := ∃ (nest : Nest) (lots : List Nat) (words : List (List Nat)) (order : List Nat), Valid nest ∧ SizesOk nest ∧ lots.length = nest.length ∧ (∀ k, k < nest.length → lots.getD k 0 < (sizes nest).getD k 0) ∧ WordsOk nest words ∧
  orderOf nest lots words = some order ∧ ds = [nestD nest, .tuple (dNs lots), wordsD words] ∧ d = .tuple (dNs order)
abbrev D_order_of (K : PySem.W.Frag) (mg : Str → Option Value) := Def K mg "order_of" s_order_of ["nest", "some", "words"]
theorem ok_order_of (D : D_order_of K mg f fd) (T : Top mg tk) (G_need_nest : FnOk P w K mg base CX0 2 f1 fd1 ["nest"] (PureR R_need_nest)) (D_need_nest : D_need_nest K mg f1 fd1) (G_is_ranks : FnOk P w K mg base CX0 2 f2 fd2 ["nest", "value"] (PureR R_is_ranks)) (D_is_ranks : D_is_ranks K mg f2 fd2)
    (G_is_words : FnOk P w K mg base CX0 3 f3 fd3 ["nest", "value"] (PureR R_is_words)) (D_is_words : D_is_words K mg f3 fd3) (G_mixed : FnOk P w K mg base CX0 1 f4 fd4 ["parts", "word"] spMixed) (D_mixed : D_mixed K mg f4 fd4) :
    FnOk P w K mg base CX0 4 f fd ["nest", "some", "words"] (PureR R_order_of) := by
  refine D.F.ok sc_order_of (fun vs H Q E h => ?_) (fun cdv A outer s H vs Q E hr h => ?_)
  · obtain ⟨ds, d, r, ⟨nest, lots, words, order, hV, Z, hl, hlt, W, ho, rfl, rfl⟩, _⟩ := h
    exact r.len
  · obtain ⟨ds, d, r, ⟨nest, lots, words, order, hV, Z, hl, hlt, W, ho, rfl, rfl⟩, qq⟩ := h
    obtain ⟨v1, v2, v3, rfl, r1, r2, r3⟩ := r.three
    have n9 := hV.few
    have hnl : (nest.map dO).length = nest.length := List.length_map ..
    obtain ⟨W1, W2⟩ := W
    have wlen : ∀ (k : Nat) room, (rooms nest)[k]? = some room → (words.getD k []).length ≤ 100 := fun k room h => by
      have := due_small hV Z room
      rw [(W2 k room h).length_eq]
      omega
    unfold orderOf at ho
    obtain ⟨final, hf⟩ : ∃ final, partsF nest lots words nest.length 0 [] = some final := by
      cases e : partsF nest lots words nest.length 0 [] with
      | none => rw [e] at ho; cases ho
      | some final => exact ⟨final, rfl⟩
    rw [hf] at ho
    have ho' : mixed (kids nest none final) (words.getD nest.length []) [] = some order := ho
    refine ⟨_, (pss_cons (ps_expr (pe_call G_need_nest (hr.mono (by decide)) (by rfl) D_need_nest.g D_need_nest.F.kp D_need_nest.b .nil pass0 (pa_cons (pv 0) pa_nil)))
      (pss_cons (ps_if (pt_not (pt_val (pe_call G_is_ranks (hr.mono (by decide)) (by rfl) D_is_ranks.g D_is_ranks.F.kp D_is_ranks.b .nil pass0 (pa_cons (pv 0) (pa_cons (pv 1) pa_nil))))) (pss_one ps_never) pss_nil)
      (pss_cons (ps_if (pt_not (pt_val (pe_call G_is_words (hr.mono (by decide)) (by rfl) D_is_words.g D_is_words.F.kp D_is_words.b .nil pass0 (pa_cons (pv 0) (pa_cons (pv 2) pa_nil))))) (pss_one ps_never) pss_nil)
      (pss_cons (ps_set (i := 3) sc_order_of.nd rfl (.inr rfl) pe_dnewK)
      (pss_cons (ps_for PassesOwn.never rfl (pi_range1 (by rfl) T.range (pa_cons (pe_callB (r := rLenS K) call_len_seq (by rfl) T.len PySem.boot_len (pa_cons (pv 0) pa_nil)) pa_nil)) (pg_name (i := 4) sc_order_of.nd rfl (.inr rfl)) (pss_cons (ps_set (i := 5) sc_order_of.nd rfl (.inl rfl) (pe_call G_mixed (hr.mono (by decide)) (by rfl) D_mixed.g D_mixed.F.kp D_mixed.b .nil pass0 (pa_cons (pe_callTy (call_dictP rfl) (by rfl) T.dict (by decide +kernel) (pa_cons (pe_lc (own := [("x", 6)]) (g := (gName 6)) rfl sc_order_of.nd (pi_range1 (by rfl) T.range (pa_cons (pv 4) pa_nil)) (blkOk_by (N := n_order_of) (sc := defScope s_order_of) (by decide +kernel)) (fun _ _ _ _ _ => (pg_name (i := 6) sc_order_of.nd rfl (.inl rfl))) (fun _ _ _ _ _ => (pts_one (pt_cmpR (r := rEqD K) (op_eqD hr.units) (pe_ix (r := rIx K) ix_seq (pv 0) (pv 6) (fun _ _ => rfl)) (pv 4) (nomark _)))) (fun _ _ _ _ _ => (pe_tupF (pa_cons (pv 6) (pa_cons (pe_dget (hu_of hr) (pv 3) (pv 6) (fun _ _ => rfl)) pa_nil))))) pa_nil)) (pa_cons (pe_ix (r := rIx K) ix_seq (pv 2) (pv 4) (fun _ _ => rfl)) pa_nil))))
      (pss_one (ps_dput (hu_of hr) (pv 3) (pv 4) (pe_op op_cat (pe_op op_cat (pe_slice (r := rSlL K) sl_list (pv 5) po_none (po_some (pe_ix (r := rIx K) ix_seq (pv 1) (pv 4) (fun _ _ => rfl)))) (pe_lst (pa_cons (pv 4) pa_nil))) (pe_slice (r := rSlL K) sl_list (pv 5) (po_some (pe_ix (r := rIx K) ix_seq (pv 1) (pv 4) (fun _ _ => rfl))) po_none)) rfl))))
      (pss_one (ps_ret (pe_callTy (r := rTupS K) call_tupF (by rfl) T.tuple (by decide +kernel) (pa_cons (pe_call G_mixed (hr.mono (by decide)) (by rfl) D_mixed.g D_mixed.F.kp D_mixed.b .nil pass0 (pa_cons (pe_callTy (call_dictP rfl) (by rfl) T.dict (by decide +kernel) (pa_cons (pe_lc (own := [("x", 6)]) (g := (gName 6)) rfl sc_order_of.nd (pi_range1 (by rfl) T.range (pa_cons (pe_callB (r := rLenS K) call_len_seq (by rfl) T.len PySem.boot_len (pa_cons (pv 0) pa_nil)) pa_nil)) (blkOk_by (N := n_order_of) (sc := defScope s_order_of) (by decide +kernel)) (fun _ _ _ _ _ => (pg_name (i := 6) sc_order_of.nd rfl (.inl rfl))) (fun _ _ _ _ _ => (pts_one (pt_cmpR op_isN (pe_ix (r := rIx K) ix_seq (pv 0) (pv 6) (fun _ _ => rfl)) pe_non (nomark _)))) (fun _ _ _ _ _ => (pe_tupF (pa_cons (pv 6) (pa_cons (pe_dget (hu_of hr) (pv 3) (pv 6) (fun _ _ => rfl)) pa_nil))))) pa_nil)) (pa_cons (pe_ix (r := rIx K) ix_seq (pv 2) (pe_un un_neg pe_int) (fun _ _ => rfl)) pa_nil))) pa_nil))))))))), ?_⟩
    refine expr_go (y_call (ya_cons (y_var r1) ya_nil) ⟨nest, hV, rfl, rfl⟩) fun H1 s1 => ?_
    refine if_no ((yt_not (yt_val (y_call (ya_cons (y_var (r1.up s1)) (ya_cons (y_var (r2.up s1)) ya_nil)) ⟨nest, lots, hV, Z, hl, hlt, rfl, rfl⟩))).cast rfl) fun H2 s2 => ?_
    have s02 := s1.trans s2
    refine if_no ((yt_not (yt_val (y_call (ya_cons (y_var (r1.up s02)) (ya_cons (y_var (r3.up s02)) ya_nil)) ⟨nest, words, hV, Z, ⟨W1, W2⟩, rfl, rfl⟩))).cast rfl) fun H3 s3 => ?_
    have s03 := s02.trans s3
    -- parts = {}
    refine dnew_go fun pd npd => ?_
    have np0 := s03.free npd
    have s04 := s03.trans (same_new (o := .dK []) npd)
    -- for k in range(len(nest))
    refine for_rng_go (n := nest.length) (ya_cons (yc (by rw [hnl]) (y_lent (y_var (r1.up s04)))) ya_nil) (by omega) (fun i σ Hn => ∃ y4 y5 y6 parts, σ = [some v1, some v2, some v3, some (.ref pd), y4, y5, y6] ∧ Same H Hn ∧ PD Hn pd parts ∧ parts.length = i ∧
        partsF nest lots words (nest.length - i) i parts = some final) (fun H5 s5 => ⟨none, none, none, [], rfl, s04.trans s5, ⟨[], s5 _ _ upd_same, Nat.le_refl _, fun x xs e => by simp at e⟩, rfl, hf⟩) ?_ ?_
    · rintro i σ Hn hi ⟨y4, y5, y6, parts, rfl, sn, hpd, hpl, hF⟩
      have ek : nest.length - i = (nest.length - (i + 1)) + 1 := by omega
      rw [ek] at hF
      have hF' : (match mixed (kids nest (some i) parts) (words.getD i []) [] with | none => none | some inner => partsF nest lots words (nest.length - (i + 1)) (i + 1) (parts ++ [inner.take (lots.getD i 0) ++ [i] ++ inner.drop (lots.getD i 0)])) = some final := hF
      obtain ⟨inner, hin⟩ : ∃ inner, mixed (kids nest (some i) parts) (words.getD i []) [] = some inner := by
        cases e : mixed (kids nest (some i) parts) (words.getD i []) [] with
        | none => rw [e] at hF'; cases hF'
        | some inner => exact ⟨inner, rfl⟩
      rw [hin] at hF'
      have hF2 : partsF nest lots words (nest.length - (i + 1)) (i + 1) (parts ++ [inner.take (lots.getD i 0) ++ [i] ++ inner.drop (lots.getD i 0)]) = some final := hF'
      have hroom : (rooms nest)[i]? = some (some i) := by
        unfold rooms
        rw [List.getElem?_append_left (by rw [List.length_map, List.length_range]; exact hi), List.getElem?_map, List.getElem?_range hi]
        rfl
      have w100 := wlen i _ hroom
      have il := (mixed_get hin).1
      have ri : ∀ {H' : Hp}, Rep H' (V.int (i : Int)) (dN i) := .int _
      refine set_go (y_mixed (n := i) (nest := nest) (room := some i) (wd := words.getD i []) (ya_cons (y_var (i := 4) ri) ya_nil) (by omega) hpl hpd (fun _ => rfl) (fun _ => rfl) (fun _ => rfl) (fun x hx H' s' => ?_) (y_ixt (y_var (i := 2) (r3.up sn)) (y_var (i := 4) ri) (words_at (by omega))) w100 hin) fun u H6 s6 ru => ?_
      · exact ytc (ev_oo _ (some i)) (yt_test (y_eq (y_ixt (y_var (i := 0) ((r1.up sn).up s')) (y_var (i := 6) (v := .int (x : Int)) (.int _)) (nest_at (by omega))) (y_var (i := 4) ri) (ok_o _) (ok_o (some i))))
      · have s06 := sn.trans s6
        refine (yc (e := .list (dNs (inner.take (lots.getD i 0) ++ [i] ++ inner.drop (lots.getD i 0)))) ?_ (y_cat (y_cat (y_take (y_var (i := 5) ru) (y_ixt (y_var (i := 1) (r2.up s06)) (y_var (i := 4) ri) (ns_atD (by omega)))) (y_lst (ya_cons (y_var (i := 4) ri) ya_nil) (by simp)) ?_) (y_drop (y_var (i := 5) ru) (y_ixt (y_var (i := 1) (r2.up s06)) (y_var (i := 4) ri) (ns_atD (by omega)))) ?_)).go fun v H7 s7 rv => ?_
        · unfold dNs
          rw [List.map_append, List.map_append, List.map_take, List.map_drop]
          rfl
        · rw [List.length_take, List.length_map, List.length_singleton]
          omega
        · rw [List.length_append, List.length_take, List.length_drop, List.length_map, List.length_singleton]
          omega
        · obtain ⟨l, xs, rfl, hl7, g2⟩ := rv.toLst
          have hxs := repAll_n g2
          obtain ⟨kvs, k1, k2, k3⟩ := hpd.up (s6.trans s7)
          refine ⟨.ref pd, rfl, .int (i : Int), rfl, pd, _, rfl, DPut.k (k := kN i) k1 (small1000 (by omega)), _, _, _, parts ++ [inner.take (lots.getD i 0) ++ [i] ++ inner.drop (lots.getD i 0)], rfl, fun b u e => ?_, ⟨_, upd_same, ?_, fun x ys hx => ?_⟩, ?_, hF2⟩
          · rw [upd_ne (ne_of_none e np0)]
            exact s7 _ _ (s6 _ _ (sn _ _ e))
          · have := length_putK kvs (kN i) (.ref l)
            rw [List.length_append, List.length_singleton]
            omega
          · rw [valV_put]
            by_cases e : x = i
            · subst e
              rw [if_pos rfl]
              rw [List.getElem?_append_right (by omega), hpl, Nat.sub_self] at hx
              have hy : inner.take (lots.getD x 0) ++ [x] ++ inner.drop (lots.getD x 0) = ys := Option.some.inj hx
              refine ⟨l, rfl, ?_⟩
              have c1 : l ≠ pd := fun z => by rw [z, k1] at hl7; cases hl7
              rw [upd_ne c1, hl7, hxs, hy]
            · have hx2 : parts[x]? = some ys := by
                rw [List.getElem?_append_left] at hx
                · exact hx
                · have := (List.getElem?_eq_some_iff.mp hx).1
                  rw [List.length_append, List.length_singleton] at this
                  omega
              obtain ⟨l', l1, l2⟩ := k3 x ys hx2
              refine ⟨l', ?_, ?_⟩
              · rw [if_neg (fun z => e (kN_inj z))]
                exact l1
              · have c1 : l' ≠ pd := fun z => by rw [z, k1] at l2; cases l2
                rw [upd_ne c1]
                exact l2
          · rw [List.length_append, hpl]
            rfl
    · rintro σ Hn ⟨y4, y5, y6, parts, rfl, sn, hpd, hpl, hF⟩
      rw [Nat.sub_self] at hF
      have e : parts = final := Option.some.inj hF
      subst e
      have hroom : (rooms nest)[nest.length]? = some none := by
        unfold rooms
        rw [List.getElem?_append_right (by rw [List.length_map, List.length_range]; exact Nat.le_refl _), List.length_map, List.length_range, Nat.sub_self]
        rfl
      refine ret_go (y_tupOf (y_mixed (n := nest.length) (nest := nest) (room := none) (wd := words.getD nest.length []) (ya_cons (yc (by rw [hnl]) (y_lent (y_var (i := 0) (r1.up sn)))) ya_nil) (by omega) hpl hpd (fun _ => rfl) (fun _ => rfl) (fun _ => rfl) (fun x hx H' s' => ?_) (y_ixt (y_var (i := 2) (r3.up sn)) (y_neg y_int) (words_last W1)) (wlen _ _ hroom) ho')) fun v H6 s6 rv => qq v H6 (sn.trans s6) rv
      refine ytc ?_ (yt_test (y_isN (y_ixt (y_var (i := 0) ((r1.up sn).up s')) (y_var (i := 6) (v := .int (x : Int)) (.int _)) (nest_at (by omega))) y_non))
      rw [ev_on]
      cases up nest x <;> rfl
end
end CD
set_option Elab.async false
set_option linter.all false
set_option maxRecDepth 100000
set_option maxHeartbeats 4000000
namespace CD
open PySem PySem.Spec L2
open PyProof.Rows hiding St
/-! ### the row of draws: a list that is written to -/
def RowV (sc : Addr) (a b c : Int) : List V := [.ref sc, .int a, .int b, .int c]
/-- a list of the module -/
def KSq (K : PySem.W.Frag) (a : Addr) (xs : List V) : Prop := ∃ (o : Obj) (its : Array Value) (n : Nat), K.lookup a = some o ∧ o.cls = .type "list" ∧ o.dict = none ∧ o.data = .seq its n ∧ its.size ≤ sizeLine ∧ Vals xs its.toList
theorem sq_apart {K : PySem.W.Frag} {p a : Addr} {H : Hp} {xs : List V} (h : SqL K H a xs) (n : H p = none) : a ≠ p ∨ KSq K a xs := by
  rcases h with (h | ⟨o, h⟩) | h
  · exact .inl (ne_of_none h n)
  · exact .inl (ne_of_none h n)
  · exact .inr h
structure RowIs (K : PySem.W.Frag) (H : Hp) (r sc : Addr) (xs : List Int) (a b c : Int) : Prop where
  row : H r = some (.lst (RowV sc a b c))
  cells : SqL K H sc (xs.map V.int)
  ne : sc ≠ r ∨ KSq K sc (xs.map V.int)
  a0 : 0 ≤ a
  b0 : 0 ≤ b
  b1 : b < 2147483648
  c0 : 0 ≤ c
def RowAt (K : PySem.W.Frag) (H : Hp) (r sc : Addr) (xs : List Int) : Prop := ∃ a b c, RowIs K H r sc xs a b c
/-- all but the row stays -/
def SameX (r : Addr) (H H' : Hp) : Prop := ∀ b u, b ≠ r → H b = some u → H' b = some u
theorem SameX.refl (r : Addr) (H : Hp) : SameX r H H := fun _ _ _ e => e
theorem SameX.trans {r : Addr} {H H1 H2 : Hp} (a : SameX r H H1) (b : SameX r H1 H2) : SameX r H H2 := fun c u n e => b c u n (a c u n e)
theorem SameX.of {r : Addr} {H H' : Hp} (s : Same H H') : SameX r H H' := fun b u _ e => s b u e
theorem SameX.put {r : Addr} {H : Hp} {o : HO} : SameX r H (upd H r o) := fun b u n e => by rw [upd_ne n]; exact e
theorem SameX.seq {K : PySem.W.Frag} {r a : Addr} {H H' : Hp} {xs : List V} (s : SameX r H H') (n : a ≠ r ∨ KSq K a xs) (h : SqL K H a xs) : SqL K H' a xs := by
  rcases n with n | n
  · rcases h with (h | ⟨o, h⟩) | h
    · exact .inl (.inl (s _ _ n h))
    · exact .inl (.inr ⟨o, s _ _ n h⟩)
    · exact .inr h
  · exact .inr n
theorem RowIs.up {K : PySem.W.Frag} {H H' : Hp} {r sc : Addr} {xs : List Int} {a b c : Int} (h : RowIs K H r sc xs a b c) (s : Same H H') : RowIs K H' r sc xs a b c :=
  ⟨s _ _ h.row, s.seq h.cells, h.ne, h.a0, h.b0, h.b1, h.c0⟩
theorem RowAt.up {K : PySem.W.Frag} {H H' : Hp} {r sc : Addr} {xs : List Int} (h : RowAt K H r sc xs) (s : Same H H') : RowAt K H' r sc xs :=
  let ⟨a, b, c, h⟩ := h; ⟨a, b, c, h.up s⟩
/-- what stands elsewhere is written: H the heap that knew the cells -/
theorem RowAt.there {K : PySem.W.Frag} {H Hn H' : Hp} {r sc : Addr} {xs : List Int} (h : RowAt K Hn r sc xs) (h0 : SqL K H sc (xs.map V.int)) (x : SameX r H H') (e : ∀ u, Hn r = some u → H' r = some u) : RowAt K H' r sc xs :=
  let ⟨a, b, c, h⟩ := h; ⟨a, b, c, e _ h.row, x.seq h.ne h0, h.ne, h.a0, h.b0, h.b1, h.c0⟩
theorem RowAt.cells {K : PySem.W.Frag} {H : Hp} {r sc : Addr} {xs : List Int} (h : RowAt K H r sc xs) : SqL K H sc (xs.map V.int) := let ⟨_, _, _, h⟩ := h; h.cells
theorem RowAt.at {K : PySem.W.Frag} {H : Hp} {r sc : Addr} {xs : List Int} (h : RowAt K H r sc xs) : ∃ u, H r = some u := let ⟨_, _, _, h⟩ := h; ⟨_, h.row⟩
theorem RowIs.put {K : PySem.W.Frag} {H : Hp} {r sc : Addr} {xs : List Int} {a b c a' b' c' : Int} (h : RowIs K H r sc xs a b c) (a0 : 0 ≤ a') (b0 : 0 ≤ b') (b1 : b' < 2147483648) (c0 : 0 ≤ c') : RowIs K (upd H r (.lst (RowV sc a' b' c'))) r sc xs a' b' c' :=
  ⟨upd_same, SameX.put.seq h.ne h.cells, h.ne, a0, b0, b1, c0⟩
section
variable {K : PySem.W.Frag} {σ : L2.St} {H : Hp} {r sc : Addr} {xs : List Int} {a b c : Int} {t ta tb : TE}
theorem y_at {ys : List V} {j : Nat} {i : Int} {v : V} {d : PyData} (h : H r = some (.lst ys)) (hv : atI ys i = some v) (rv : Rep H v d) (hj : σ[j]? = some (some (.ref r)) := by rfl) : Y (tOp (rIx K) (tVar j) (tC (.int i))) σ H d := fun H1 s Q q =>
  ⟨.ref r, hj, .inl ⟨r, ys, i, v, rfl, rfl, SqL.of (s _ _ h), hv, q v H1 (Same.refl H1) (rv.up s)⟩⟩
theorem y_row1 {j : Nat} (h : RowIs K H r sc xs a b c) (hj : σ[j]? = some (some (.ref r)) := by rfl) : Y (tOp (rIx K) (tVar j) (tC (.int 1))) σ H (.int a) := y_at h.row rfl (.int a) hj
theorem y_row2 {j : Nat} (h : RowIs K H r sc xs a b c) (hj : σ[j]? = some (some (.ref r)) := by rfl) : Y (tOp (rIx K) (tVar j) (tC (.int 2))) σ H (.int b) := y_at h.row rfl (.int b) hj
theorem y_row3 {j : Nat} (h : RowIs K H r sc xs a b c) (hj : σ[j]? = some (some (.ref r)) := by rfl) : Y (tOp (rIx K) (tVar j) (tC (.int 3))) σ H (.int c) := y_at h.row rfl (.int c) hj
theorem y_mod {i j : Int} (ha : Y ta σ H (.int i)) (hb : Y tb σ H (.int j)) (h : 0 < j) : Y (tOp (rI (fun _ j => 0 < j) fun i j => .int (i % j)) ta tb) σ H (.int (i % j)) :=
  y_op ha hb fun v u H1 Q _ r1 r2 q => ⟨i, j, r1.toInt, r2.toInt, h, q _ H1 (Same.refl H1) (.int _)⟩
theorem y_fdivI {i j : Int} (ha : Y ta σ H (.int i)) (hb : Y tb σ H (.int j)) (h : CDiv i j) : Y (tOp (rI CDiv fun i j => .int (i / j)) ta tb) σ H (.int (i / j)) :=
  y_op ha hb fun v u H1 Q _ r1 r2 q => ⟨i, j, r1.toInt, r2.toInt, h, q _ H1 (Same.refl H1) (.int _)⟩
theorem y_pow {i j : Int} (ha : Y ta σ H (.int i)) (hb : Y tb σ H (.int j)) (h : CPow i j) : Y (tOp (rI CPow fun i j => .int (i ^ j.toNat)) ta tb) σ H (.int (i ^ j.toNat)) :=
  y_op ha hb fun v u H1 Q _ r1 r2 q => ⟨i, j, r1.toInt, r2.toInt, h, q _ H1 (Same.refl H1) (.int _)⟩
/-- the script's length, a cell of it -/
theorem y_rowLen {j : Nat} (h : RowIs K H r sc xs a b c) (hj : σ[j]? = some (some (.ref r)) := by rfl) : Y (tCB (rLenS K) (tCons (tOp (rIx K) (tVar j) (tC (.int 0))) tNil)) σ H (.int (xs.length : Int)) := fun H1 s Q q =>
  ⟨.ref r, hj, .inl ⟨r, RowV sc a b c, 0, .ref sc, rfl, rfl, SqL.of (s _ _ h.row), rfl, sc, xs.map V.int, rfl, .inl (s.seq h.cells), by
    rw [List.length_map]
    exact q _ H1 (Same.refl H1) (.int _)⟩⟩
theorem y_cell {j : Nat} {i x : Int} (h : RowIs K H r sc xs a b c) (hb : Y tb σ H (.int i)) (hx : atI xs i = some x) (hj : σ[j]? = some (some (.ref r)) := by rfl) : Y (tOp (rIx K) (tOp (rIx K) (tVar j) (tC (.int 0))) tb) σ H (.int x) := fun H1 s Q q =>
  ⟨.ref r, hj, .inl ⟨r, RowV sc a b c, 0, .ref sc, rfl, rfl, SqL.of (s _ _ h.row), rfl, hb H1 s _ fun u H2 s2 ru => .inl ⟨sc, xs.map V.int, i, .int x, rfl, ru.toInt, (s.trans s2).seq h.cells, by
    unfold atI at hx ⊢
    rw [List.length_map]
    cases e : ixN xs.length i with
    | none => rw [e] at hx; cases hx
    | some k =>
      rw [e] at hx
      have hx' : xs[k]? = some x := hx
      show (xs.map V.int)[k]? = some (.int x)
      rw [List.getElem?_map, hx']
      rfl, q _ H2 s2 (.int x)⟩⟩⟩
/-- a cell of the row is written -/
theorem put_go {te : TE} {D : Ends} {d i : Int} {j k : Nat} {ys : List V} (y : Y te σ H (.int d)) (h : H r = some (.lst ys)) (hk : ixN ys.length i = some k) (hj : σ[j]? = some (some (.ref r))) (q : ∀ H1, Same H H1 → D.nx σ (upd H1 r (.lst (ys.set k (.int d))))) :
    tAsg te (gSub (tVar j) (tC (.int i)) rSetL) D σ H := y.go fun v H1 s1 rv => by
  rw [rv.toInt]
  exact ⟨.ref r, hj, r, ys, i, k, rfl, rfl, s1 _ _ h, hk, q H1 s1⟩
end
section
variable {P : Program} {w : World} {K : PySem.W.Frag} {mg : Str → Option Value} {base : Heap} {tk : Tok} {f f1 f2 f3 f4 f5 : Addr} {fd fd1 fd2 fd3 fd4 fd5 : FuncData}
/-! ### _law_taken -/
abbrev s_law_taken : Stmt := topS 34
abbrev n_law_taken : List Str := ["_law_row", "_law_many", "_law_found", "_law_cell"]
theorem sc_law_taken : FnScope n_law_taken ["_law_row", "_law_many"] (defScope s_law_taken) := ⟨rfl, rfl, rfl, by decide +kernel, rfl, by decide +kernel, by decide +kernel⟩
def spTaken (K : PySem.W.Frag) : Sp := fun vs H Q _ => ∃ (r sc : Addr) (xs : List Int) (m : Int), vs = [.ref r, .int m] ∧ 0 < m ∧ m ≤ 1000 ∧ RowAt K H r sc xs ∧ ∀ (x : Int) H', 0 ≤ x → x < m → SameX r H H' → RowAt K H' r sc xs → Q (.int x) H'
abbrev D_law_taken (K : PySem.W.Frag) (mg : Str → Option Value) := Def K mg "_law_taken" s_law_taken ["_law_row", "_law_many"]
theorem ok_law_taken (D : D_law_taken K mg f fd) (T : Top mg tk) : FnOk P w K mg base CX0 1 f fd ["_law_row", "_law_many"] (spTaken K) := by
  refine D.F.ok sc_law_taken (fun vs H Q E h => ?_) (fun cdv A outer s H vs Q E hr h => ?_)
  · obtain ⟨r, sc, xs, m, rfl, _⟩ := h
    rfl
  · obtain ⟨r, sc, xs, m, rfl, m0, m1, ⟨a, b, c, R⟩, q⟩ := h
    refine ⟨_, (pss_cons (ps_if (pt_cmpR op_gt (pe_ix (r := rIx K) ix_seq (pv 0) pe_int (fun _ _ => rfl)) pe_int (nomark _)) (pss_cons (ps_set (i := 2) sc_law_taken.nd rfl (.inl rfl) (pe_op op_mod (pe_callTy call_int1 (by rfl) T.int (by decide +kernel) (pa_cons (pe_ix (r := rIx K) ix_seq (pv 0) pe_int (fun _ _ => rfl)) pa_nil)) (pv 1)))
      (pss_cons (ps_asg (pe_op op_fdiv (pe_ix (r := rIx K) ix_seq (pv 0) pe_int (fun _ _ => rfl)) (pv 1)) (pg_sub (pv 0) pe_int set_list))
      (pss_one (ps_ret (pv 2))))) pss_nil)
      (pss_cons (ps_asg (pe_op op_add (pe_ix (r := rIx K) ix_seq (pv 0) pe_int (fun _ _ => rfl)) pe_int) (pg_sub (pv 0) pe_int set_list))
      (pss_cons (ps_if (pt_cmpR op_gt (pe_ix (r := rIx K) ix_seq (pv 0) pe_int (fun _ _ => rfl)) (pe_callB (r := rLenS K) call_len_seq (by rfl) T.len PySem.boot_len (pa_cons (pe_ix (r := rIx K) ix_seq (pv 0) pe_int (fun _ _ => rfl)) pa_nil)) (nomark _)) (pss_cons (ps_asg (pe_op op_mod (pe_callTy call_int1 (by rfl) T.int (by decide +kernel) (pa_cons (pe_op op_add (pe_op op_mul (pe_ix (r := rIx K) ix_seq (pv 0) pe_int (fun _ _ => rfl)) pe_int) pe_int) pa_nil)) pe_int) (pg_sub (pv 0) pe_int set_list))
      (pss_one (ps_ret (pe_op op_mod (pe_callTy call_int1 (by rfl) T.int (by decide +kernel) (pa_cons (pe_op op_fdiv (pe_ix (r := rIx K) ix_seq (pv 0) pe_int (fun _ _ => rfl)) pe_int) pa_nil)) (pv 1))))) pss_nil)
      (pss_cons (ps_set (i := 3) sc_law_taken.nd rfl (.inl rfl) (pe_ix (r := rIx K) ix_seq (pe_ix (r := rIx K) ix_seq (pv 0) pe_int (fun _ _ => rfl)) (pe_op op_sub (pe_ix (r := rIx K) ix_seq (pv 0) pe_int (fun _ _ => rfl)) pe_int) (fun _ _ => rfl)))
      (pss_cons (ps_asg (pe_op op_mod (pe_callTy call_int1 (by rfl) T.int (by decide +kernel) (pa_cons (pe_op op_add (pe_op op_add (pe_op op_mul (pe_ix (r := rIx K) ix_seq (pv 0) pe_int (fun _ _ => rfl)) pe_int) (pv 3)) pe_int) pa_nil)) pe_int) (pg_sub (pv 0) pe_int set_list))
      (pss_cons (ps_if (pt_cmpR op_ge (pv 3) (pe_op op_pow pe_int pe_int) (nomark _)) (pss_one (ps_asg (pe_op op_fdiv (pv 3) (pv 1)) (pg_sub (pv 0) pe_int set_list))) pss_nil)
      (pss_one (ps_ret (pe_op op_mod (pe_callTy call_int1 (by rfl) T.int (by decide +kernel) (pa_cons (pv 3) pa_nil)) (pv 1)))))))))), ?_⟩
    have rm : ∀ {H' : Hp}, Rep H' (V.int m) (.int m) := .int m
    have fin : ∀ (i : Int) H', SameX r H H' → RowAt K H' r sc xs → Q (.int (i % m)) H' := fun i H' s' R' => q _ H' (Int.emod_nonneg _ (by omega)) (Int.emod_lt_of_pos _ m0) s' R'
    refine (yt_test (y_cmp (y_row3 R) y_int)).go fun H1 s1 => ite2 (fun h0 => ?_) (fun h0 => ?_)
    · -- a cell's rest
      have R1 := R.up s1
      refine set_go (y_mod (y_int1 (y_row3 R1)) (y_var rm) m0) fun u H2 s2 ru => ?_
      have R2 := R1.up s2
      refine put_go (j := 0) (r := r) (k := 3) (ys := RowV sc a b c) (y_fdivI (y_row3 R2) (y_var (i := 1) rm) ⟨m0, by omega⟩) R2.row rfl rfl fun H3 s3 => ?_
      rw [ru.toInt]
      refine ⟨_, rfl, fin _ _ ?_ ⟨a, b, c / m, (R2.up s3).put R.a0 R.b0 R.b1 (Int.ediv_nonneg R.c0 (Int.le_of_lt m0))⟩⟩
      exact ((SameX.of (s1.trans (s2.trans s3))).trans SameX.put)
    · have R1 := R.up s1
      refine put_go (j := 0) (r := r) (k := 1) (ys := RowV sc a b c) (y_add (y_row1 R1) y_int) R1.row rfl rfl fun H2 s2 => ?_
      have a0 := R.a0
      have R2 : RowIs K (upd H2 r (.lst (RowV sc (a + 1) b c))) r sc xs (a + 1) b c := (R1.up s2).put (by omega) R.b0 R.b1 R.c0
      have x2 : SameX r H (upd H2 r (.lst (RowV sc (a + 1) b c))) := (SameX.of (s1.trans s2)).trans SameX.put
      refine (yt_test (y_cmp (σ := L2.start n_law_taken [.ref r, .int m]) (y_row1 (j := 0) R2) (y_rowLen (j := 0) R2))).go fun H3 s3 => ite2 (fun h1 => ?_) (fun h1 => ?_)
      · have R3 := R2.up s3
        refine put_go (j := 0) (r := r) (k := 2) (ys := RowV sc (a + 1) b c) (y_mod (y_int1 (y_add (y_mul (y_row2 R3) y_int ?_) y_int)) y_int (by decide)) R3.row rfl rfl fun H4 s4 => ?_
        · exact .inr ⟨by decide, by decide⟩
        · have z0 : 0 ≤ (b * 48271 + 11) % 2147483647 := Int.emod_nonneg _ (by decide)
          have z1 : (b * 48271 + 11) % 2147483647 < 2147483647 := Int.emod_lt_of_pos _ (by decide)
          have R4 : RowIs K (upd H4 r (.lst (RowV sc (a + 1) ((b * 48271 + 11) % 2147483647) c))) r sc xs (a + 1) ((b * 48271 + 11) % 2147483647) c := (R3.up s4).put (by omega) z0 (by omega) R.c0
          refine (y_mod (y_int1 (y_fdivI (σ := L2.start n_law_taken [.ref r, .int m]) (y_row2 (j := 0) R4) y_int ⟨by decide, by decide⟩)) (y_var (i := 1) rm) m0).go fun u H5 s5 ru => ?_
          rw [ru.toInt]
          exact fin _ _ (((x2.trans (.of (s3.trans s4))).trans SameX.put).trans (.of s5)) ⟨_, _, _, R4.up s5⟩
      · have R3 := R2.up s3
        have h1' : ¬ (a + 1 > (xs.length : Int)) := by simpa using h1
        obtain ⟨n, hn⟩ : ∃ n : Nat, a = (n : Int) := ⟨a.toNat, by omega⟩
        subst hn
        have hx : atI xs ((n : Int) + 1 - 1) = some (xs[n]'(by omega)) := by
          rw [show (n : Int) + 1 - 1 = (n : Int) by omega]
          exact atI_nat (List.getElem?_eq_getElem (by omega))
        generalize xs[n]'(by omega) = x at hx
        refine set_go (y_cell (j := 0) R3 (y_sub (y_row1 R3) y_int) hx) fun u H4 s4 ru => ?_
        rw [ru.toInt]
        have R4 := R3.up s4
        refine put_go (j := 0) (r := r) (k := 2) (ys := RowV sc ((n : Int) + 1) b c) (y_mod (y_int1 (y_add (y_add (y_mul (y_row2 R4) y_int ?_) (y_var (i := 3) (v := .int x) (.int x))) y_int)) y_int (by decide)) R4.row rfl rfl fun H5 s5 => ?_
        · exact .inr ⟨by decide, by decide⟩
        · have z0 : 0 ≤ (b * 48271 + x + 11) % 2147483647 := Int.emod_nonneg _ (by decide)
          have z1 : (b * 48271 + x + 11) % 2147483647 < 2147483647 := Int.emod_lt_of_pos _ (by decide)
          generalize (b * 48271 + x + 11) % 2147483647 = b' at z0 z1
          have R5 : RowIs K (upd H5 r (.lst (RowV sc ((n : Int) + 1) b' c))) r sc xs ((n : Int) + 1) b' c := (R4.up s5).put (by omega) z0 (by omega) R.c0
          have x5 : SameX r H (upd H5 r (.lst (RowV sc ((n : Int) + 1) b' c))) := (x2.trans (.of (s3.trans (s4.trans s5)))).trans SameX.put
          refine (yt_test (y_cmp (σ := [some (.ref r), some (.int m), none, some (.int x)]) (y_var (i := 3) (v := .int x) (.int x)) (y_pow y_int y_int ⟨by decide, by decide, by decide⟩))).go fun H6 s6 => ite2 (fun h2 => ?_) (fun h2 => ?_)
          · have R6 := R5.up s6
            have h2' : x ≥ (10 : Int) ^ (18 : Int).toNat := by simpa using h2
            have x0 : 0 ≤ x := Int.le_trans (by decide) h2'
            refine put_go (j := 0) (r := r) (k := 3) (ys := RowV sc ((n : Int) + 1) b' c) (y_fdivI (y_var (i := 3) (v := .int x) (.int x)) (y_var (i := 1) rm) ⟨m0, by omega⟩) R6.row rfl rfl fun H7 s7 => ?_
            have R7 : RowIs K (upd H7 r (.lst (RowV sc ((n : Int) + 1) b' (x / m)))) r sc xs ((n : Int) + 1) b' (x / m) := (R6.up s7).put (by omega) z0 (by omega) (Int.ediv_nonneg x0 (Int.le_of_lt m0))
            refine (y_mod (σ := [some (.ref r), some (.int m), none, some (.int x)]) (y_int1 (y_var (i := 3) (v := .int x) (.int x))) (y_var (i := 1) rm) m0).go fun u H8 s8 ru => ?_
            rw [ru.toInt]
            exact fin _ _ (((x5.trans (.of (s6.trans s7))).trans SameX.put).trans (.of s8)) ⟨_, _, _, R7.up s8⟩
          · refine (y_mod (σ := [some (.ref r), some (.int m), none, some (.int x)]) (y_int1 (y_var (i := 3) (v := .int x) (.int x))) (y_var (i := 1) rm) m0).go fun u H8 s8 ru => ?_
            rw [ru.toInt]
            exact fin _ _ (x5.trans (.of (s6.trans s8))) ⟨_, _, _, (R5.up s6).up s8⟩
end
end CD
set_option Elab.async false
set_option linter.all false
set_option maxRecDepth 100000
set_option maxHeartbeats 4000000
namespace CD
open PySem PySem.Spec L2
open PyProof.Rows hiding St
theorem SameX.fresh {r p : Addr} {H H' : Hp} {u : HO} (s : SameX r H H') (hr : H' r = some u) (n : H' p = none) (h0 : ∃ u, H r = some u) : H p = none := by
  cases e : H p with
  | none => rfl
  | some u =>
    by_cases z : p = r
    · rw [z, hr] at n; cases n
    · rw [s _ _ z e] at n; cases n
theorem SameX.grown {r p : Addr} {H H' : Hp} {o : HO} (s : SameX r H H') (n : H p = none) : SameX r H (upd H' p o) := fun b u z e => by
  rw [upd_ne (ne_of_none e n)]
  exact s _ _ z e
section
variable {K : PySem.W.Frag} {σ : L2.St} {H : Hp} {r sc : Addr} {xs : List Int} {m : Int} {t : TE} {j : Nat} {E : XK} {Q : VK}
theorem taken_go (R : RowAt K H r sc xs) (y : Y t σ H (.int m)) (m0 : 0 < m) (m1 : m ≤ 1000) (hj : σ[j]? = some (some (.ref r))) (q : ∀ (x : Int) H', 0 ≤ x → x < m → SameX r H H' → RowAt K H' r sc xs → Q (.int x) H') :
    tCall (spTaken K) [] E (tCons (tVar j) (tCons t tNil)) σ H Q :=
  ⟨.ref r, hj, y.go fun v H1 s1 rv => by
    rw [rv.toInt]
    exact ⟨r, sc, xs, m, rfl, m0, m1, R.up s1, fun x H' a b s' R' => q x H' a b ((SameX.of s1).trans s') R'⟩⟩
end
section
variable {P : Program} {w : World} {K : PySem.W.Frag} {mg : Str → Option Value} {base : Heap} {tk : Tok} {f f1 f2 f3 f4 f5 : Addr} {fd fd1 fd2 fd3 fd4 fd5 : FuncData}
/-! ### _law_pick -/
abbrev s_law_pick : Stmt := topS 35
abbrev n_law_pick : List Str := ["_law_row", "_law_things"]
theorem sc_law_pick : FnScope n_law_pick ["_law_row", "_law_things"] (defScope s_law_pick) := ⟨rfl, rfl, rfl, by decide +kernel, rfl, by decide +kernel, by decide +kernel⟩
def spPick (K : PySem.W.Frag) : Sp := fun vs H Q _ => ∃ (r sc l : Addr) (xs : List Int) (ys : List V), vs = [.ref r, .ref l] ∧ RowAt K H r sc xs ∧ SqL K H l ys ∧ l ≠ r ∧ ys ≠ [] ∧ ys.length ≤ 1000 ∧ ∀ (i : Nat) x H', ys[i]? = some x → SameX r H H' → RowAt K H' r sc xs → Q x H'
abbrev D_law_pick (K : PySem.W.Frag) (mg : Str → Option Value) := Def K mg "_law_pick" s_law_pick ["_law_row", "_law_things"]
theorem ok_law_pick (D : D_law_pick K mg f fd) (T : Top mg tk) (G_law_taken : FnOk P w K mg base CX0 1 f1 fd1 ["_law_row", "_law_many"] (spTaken K)) (D_law_taken : D_law_taken K mg f1 fd1) : FnOk P w K mg base CX0 2 f fd ["_law_row", "_law_things"] (spPick K) := by
  refine D.F.ok sc_law_pick (fun vs H Q E h => ?_) (fun cdv A outer s H vs Q E hr h => ?_)
  · obtain ⟨r, sc, l, xs, ys, rfl, _⟩ := h
    rfl
  · obtain ⟨r, sc, l, xs, ys, rfl, R, hl, ne, n0, n1, q⟩ := h
    refine ⟨_, (pss_one (ps_ret (pe_ix (r := rIx K) ix_seq (pv 1) (pe_call G_law_taken (hr.mono (by decide)) (by rfl) D_law_taken.g D_law_taken.F.kp D_law_taken.b .nil pass0 (pa_cons (pv 0) (pa_cons (pe_callB (r := rLenS K) call_len_seq (by rfl) T.len PySem.boot_len (pa_cons (pv 1) pa_nil)) pa_nil))) (fun _ _ => rfl)))), ?_⟩
    have p0 : 0 < ys.length := List.length_pos_iff.mpr n0
    refine ⟨.ref l, rfl, .ref r, rfl, .ref l, rfl, l, ys, rfl, .inl hl, r, sc, xs, (ys.length : Int), rfl, by omega, by omega, R, fun x H' a b s' R' => ?_⟩
    obtain ⟨n, rfl⟩ : ∃ n : Nat, x = (n : Int) := ⟨x.toNat, by omega⟩
    have hn : n < ys.length := by omega
    exact .inl ⟨l, ys, (n : Int), ys[n], rfl, rfl, s'.seq (.inl ne) hl, atI_nat (List.getElem?_eq_getElem hn), q n _ H' (List.getElem?_eq_getElem hn) s' R'⟩
/-! ### _law_nest -/
abbrev s_law_nest : Stmt := topS 36
abbrev n_law_nest : List Str := ["_law_row", "_law_most", "_law_many", "_law_found", "_law_way", "_law_k", "_law_rest"]
theorem sc_law_nest : FnScope n_law_nest ["_law_row", "_law_most"] (defScope s_law_nest) := ⟨rfl, rfl, rfl, by decide +kernel, rfl, by decide +kernel, by decide +kernel⟩
def spNest (K : PySem.W.Frag) : Sp := fun vs H Q _ => ∃ (r sc : Addr) (xs : List Int) (m : Int), vs = [.ref r, .int m] ∧ 1 ≤ m ∧ m ≤ 5 ∧ RowAt K H r sc xs ∧ ∀ (nest : Nest) v H', Valid nest → nest.length ≤ 5 → Rep H' v (nestD nest) → SameX r H H' → RowAt K H' r sc xs → Q v H'
abbrev D_law_nest (K : PySem.W.Frag) (mg : Str → Option Value) := Def K mg "_law_nest" s_law_nest ["_law_row", "_law_most"]
/-- what stands before the door k -/
def NestI (K : PySem.W.Frag) (H : Hp) (r sc p : Addr) (xs : List Int) (m way : Int) (n : Nat) (k : Nat) (σ : L2.St) (Hn : Hp) : Prop := ∃ (y5 y6 : Option V) (pre : List (Option Nat)), σ = [some (.ref r), some (.int m), some (.int (n : Int)), some (.ref p), some (.int way), y5, y6] ∧ SameX r H Hn ∧ RowAt K Hn r sc xs ∧
  Hn p = some (.lst (pre.map vO)) ∧ pre.length = k ∧ ∀ (j e : Nat), pre[j]? = some (some e) → j < e ∧ e < n
theorem repAll_vO {H : Hp} : ∀ l : List (Option Nat), RepAll H (l.map vO) (l.map dO)
  | [] => .nil
  | o :: l => .cons (rep_vO o) (repAll_vO l)
theorem ok_law_nest (D : D_law_nest K mg f fd) (T : Top mg tk) (G_law_taken : FnOk P w K mg base CX0 1 f1 fd1 ["_law_row", "_law_many"] (spTaken K)) (D_law_taken : D_law_taken K mg f1 fd1)
    (G_law_pick : FnOk P w K mg base CX0 2 f2 fd2 ["_law_row", "_law_things"] (spPick K)) (D_law_pick : D_law_pick K mg f2 fd2) : FnOk P w K mg base CX0 3 f fd ["_law_row", "_law_most"] (spNest K) := by
  refine D.F.ok sc_law_nest (fun vs H Q E h => ?_) (fun cdv A outer s H vs Q E hr h => ?_)
  · obtain ⟨r, sc, xs, m, rfl, _⟩ := h
    rfl
  · obtain ⟨r, sc, xs, m, rfl, m0, m1, R, q⟩ := h
    refine ⟨_, (pss_cons (ps_par (i := 2) (j := 3) (by rfl) sc_law_nest.nd rfl rfl (by decide) rfl rfl (pa_cons (pe_op op_add pe_int (pe_call G_law_taken (hr.mono (by decide)) (by rfl) D_law_taken.g D_law_taken.F.kp D_law_taken.b .nil pass0 (pa_cons (pv 0) (pa_cons (pv 1) pa_nil)))) (pa_cons (pe_lst pa_nil) pa_nil)) (by rfl))
      (pss_cons (ps_set (i := 4) sc_law_nest.nd rfl (.inl rfl) (pe_call G_law_taken (hr.mono (by decide)) (by rfl) D_law_taken.g D_law_taken.F.kp D_law_taken.b .nil pass0 (pa_cons (pv 0) (pa_cons pe_int pa_nil))))
      (pss_cons (ps_for PassesOwn.never rfl (pi_range1 (by rfl) T.range (pa_cons (pv 2) pa_nil)) (pg_name (i := 5) sc_law_nest.nd rfl (.inl rfl)) (pss_cons (ps_set (i := 6) sc_law_nest.nd rfl (.inl rfl) (pe_op op_sub (pe_op op_sub (pv 2) pe_int) (pv 5)))
      (pss_one (ps_if (PW.pt (pw_or (pt_cmpR (r := rEqD K) (op_eqD hr.units) (pv 6) pe_int (nomark _)) (pw_or1 (PW.pt (pw_and (pt_cmpR (r := rEqD K) (op_eqD hr.units) (pv 4) pe_int (nomark _)) (pw_and1 (pt_cmpR (r := rEqD K) (op_eqD hr.units) (pe_call G_law_taken (hr.mono (by decide)) (by rfl) D_law_taken.g D_law_taken.F.kp D_law_taken.b .nil pass0 (pa_cons (pv 0) (pa_cons pe_int pa_nil))) pe_int (nomark _)))))))) (pss_one (ps_expr (pe_bm PySem.F.plainAttrs_list PySem.F.slot_list_append PySem.F.type_list_append mt_append (pv 3) (pa_cons pe_non pa_nil)))) (pss_one (ps_expr (pe_bm PySem.F.plainAttrs_list PySem.F.slot_list_append PySem.F.type_list_append mt_append (pv 3) (pa_cons (pe_ifExp (pt_cmpR (r := rEqD K) (op_eqD hr.units) (pv 4) pe_int (nomark _)) (pe_op op_add (pv 5) pe_int) (pe_op op_add (pe_op op_add (pv 5) pe_int) (pe_call G_law_taken (hr.mono (by decide)) (by rfl) D_law_taken.g D_law_taken.F.kp D_law_taken.b .nil pass0 (pa_cons (pv 0) (pa_cons (pe_call G_law_pick (hr.mono (by decide)) (by rfl) D_law_pick.g D_law_pick.F.kp D_law_pick.b .nil pass0 (pa_cons (pv 0) (pa_cons (pe_lst (pa_cons pe_int (pa_cons (pv 6) pa_nil))) pa_nil))) pa_nil))))) pa_nil))))))))
      (pss_one (ps_ret (pe_callTy (r := rTupS K) call_tupF (by rfl) T.tuple (by decide +kernel) (pa_cons (pv 3) pa_nil))))))), ?_⟩
    have c0 := R.cells
    -- many, found
    refine taken_go (j := 0) (σ := L2.start n_law_nest [.ref r, .int m]) R (y_var (i := 1) (v := .int m) (.int m)) (by omega) (by omega) rfl fun x H1 x0 x1 s1 R1 => ?_
    refine ⟨1, x, rfl, rfl, Nat.zero_le _, fun p np => ⟨_, _, rfl, ?_⟩⟩
    obtain ⟨ur, hur⟩ := R1.at
    have np0 : H p = none := s1.fresh hur np R.at
    have nrp : r ≠ p := fun z => by rw [← z, hur] at np; cases np
    obtain ⟨n, hn⟩ : ∃ n : Nat, 1 + x = (n : Int) := ⟨(1 + x).toNat, by omega⟩
    dsimp only
    rw [hn]
    have n5 : n ≤ 5 := by omega
    have n1 : 1 ≤ n := by omega
    have R2 := R1.up (same_new (o := .lst []) np)
    -- way
    refine taken_go (j := 0) (σ := [some (.ref r), some (.int m), some (.int (n : Int)), some (.ref p), none, none, none]) R2 y_int (by decide) (by decide) rfl fun way H3 w0 w1 s3 R3 => ?_
    have x3 : SameX r H H3 := (s1.trans (.of (same_new np))).trans s3
    have hp3 : H3 p = some (.lst ([].map vO)) := s3 _ _ nrp.symm upd_same
    -- the doors
    refine for_rng_go (n := n) (ya_cons (y_var (v := .int (n : Int)) (.int _)) ya_nil) (by omega) (NestI K H r sc p xs m way n) (fun H4 s4 => ⟨none, none, [], rfl, x3.trans (.of s4), R3.up s4, s4 _ _ hp3, rfl, fun j e h => by simp at h⟩) ?_ ?_
    · rintro i σ Hn hi ⟨y5, y6, pre, rfl, sn, Rn, hp, hl, hpre⟩
      have done : ∀ (o : Option Nat) H', SameX r H H' → RowAt K H' r sc xs → H' p = some (.lst (pre.map vO)) → (∀ e, o = some e → i < e ∧ e < n) →
          NestI K H r sc p xs m way n (i + 1) [some (.ref r), some (.int m), some (.int (n : Int)), some (.ref p), some (.int way), some (.int (i : Int)), some (.int ((n : Int) - 1 - (i : Int)))] (upd H' p (.lst (pre.map vO ++ [vO o]))) := by
        intro o H' s' R' hp' ho
        refine ⟨_, _, pre ++ [o], rfl, s'.grown np0, R'.there c0 (s'.grown np0) (fun u e => by rw [upd_ne nrp]; exact e), ?_, by rw [List.length_append, hl]; rfl, fun j e h => ?_⟩
        · rw [upd_same, List.map_append]; rfl
        · by_cases z : j < i
          · rw [List.getElem?_append_left (by omega)] at h
            exact hpre j e h
          · have := (List.getElem?_eq_some_iff.mp h).1
            rw [List.length_append, List.length_singleton] at this
            have ej : j = i := by omega
            subst ej
            rw [List.getElem?_append_right (by omega), hl, Nat.sub_self] at h
            exact ho e (Option.some.inj h)
      have small : (pre.map vO).length < sizeLine := by rw [List.length_map]; exact small1000 (by omega)
      refine set_go (y_sub (y_sub (y_var (i := 2) (v := .int (n : Int)) (.int _)) y_int) (y_var (i := 5) (v := .int (i : Int)) (.int _))) fun u H4 s4 ru => ?_
      rw [ru.toInt]
      have s04 : SameX r H H4 := sn.trans (.of s4)
      have R4 := Rn.up s4
      have hp4 := s4 _ _ hp
      -- the test
      refine (yt_test (y_eq (σ := [some (.ref r), some (.int m), some (.int (n : Int)), some (.ref p), some (.int way), some (.int (i : Int)), some (.int ((n : Int) - 1 - (i : Int)))]) (y_var (i := 6) (v := .int ((n : Int) - 1 - (i : Int))) (.int _)) y_int ok_int ok_int)).go fun H5 s5 => ite2 (fun h5 => ?_) (fun h5 => ?_)
      · refine iteT ⟨.ref p, rfl, .inl ⟨rfl, _, SqL.of (s5 _ _ hp4)⟩, p, _, _, rfl, rfl, s5 _ _ hp4, small, done none _ (s04.trans (.of s5)) (R4.up s5) (s5 _ _ hp4) (fun e z => nomatch z)⟩
      · have h5' : (n : Int) - 1 - (i : Int) ≠ 0 := fun z => h5 (show ((n : Int) - 1 - (i : Int) == 0) = true by rw [z]; rfl)
        have s05 := s04.trans (.of s5)
        have R5 := R4.up s5
        have hp5 := s5 _ _ hp4
        have other : ∀ H6, SameX r H5 H6 → RowAt K H6 r sc xs → H6 p = some (.lst (pre.map vO)) → tDrop (tBM K "list" rAppend (tVar 3) (tCons (tIf (tTest (tOp (rEqD K) (tVar 4) (tC (.int 0)))) (tOp (rI0 fun i j => .int (i + j)) (tVar 5) (tC (.int 1)))
            (tOp (rI0 fun i j => .int (i + j)) (tOp (rI0 fun i j => .int (i + j)) (tVar 5) (tC (.int 1))) (tCall (spTaken K) [] E0 (tCons (tVar 0) (tCons (tCall (spPick K) [] E0 (tCons (tVar 0) (tCons (tLst (tCons (tC (.int 1)) (tCons (tVar 6) tNil))) tNil))) tNil))))) tNil))
            { nx := NestI K H r sc p xs m way n (i + 1), rt := Q } [some (.ref r), some (.int m), some (.int (n : Int)), some (.ref p), some (.int way), some (.int (i : Int)), some (.int ((n : Int) - 1 - (i : Int)))] H6 := by
          intro H6 s6 R6 hp6
          refine ⟨.ref p, rfl, .inl ⟨rfl, _, SqL.of hp6⟩, ?_⟩
          refine (yt_test (y_eq (σ := [some (.ref r), some (.int m), some (.int (n : Int)), some (.ref p), some (.int way), some (.int (i : Int)), some (.int ((n : Int) - 1 - (i : Int)))]) (y_var (i := 4) (v := .int way) (.int _)) y_int ok_int ok_int)).go fun H7 s7 => ite2 (fun h7 => ?_) (fun h7 => ?_)
          · refine ⟨.int (i : Int), rfl, (i : Int), 1, rfl, rfl, p, _, _, rfl, rfl, s7 _ _ hp6, small, ?_⟩
            exact done (some (i + 1)) _ ((s05.trans s6).trans (.of s7)) (R6.up s7) (s7 _ _ hp6) fun e z => by cases z; omega
          · refine ⟨.int (i : Int), rfl, (i : Int), 1, rfl, rfl, .ref r, rfl, .ref r, rfl, .int ((n : Int) - 1 - (i : Int)), rfl, (by decide : 2 ≤ sizeLine), fun l nl => ?_⟩
            have R8 := (R6.up s7).up (same_new (o := .lst [.int 1, .int ((n : Int) - 1 - (i : Int))]) nl)
            obtain ⟨u8, hu8⟩ := (R6.up s7).at
            have hp8 := same_new (o := .lst [.int 1, .int ((n : Int) - 1 - (i : Int))]) nl _ _ (s7 _ _ hp6)
            refine ⟨r, sc, l, xs, [.int 1, .int ((n : Int) - 1 - (i : Int))], rfl, R8, SqL.of upd_same, (fun z => by rw [z, hu8] at nl; cases nl), by simp, by simp, fun k x H9 hk s9 R9 => ?_⟩
            obtain ⟨y, rfl, y0, y1⟩ : ∃ y : Int, x = .int y ∧ 0 < y ∧ y ≤ (n : Int) - 1 - (i : Int) := by
              match k, hk with
              | 0, hk => exact ⟨1, (Option.some.inj hk).symm, by decide, by omega⟩
              | 1, hk => exact ⟨_, (Option.some.inj hk).symm, by omega, Int.le_refl _⟩
              | k + 2, hk => simp at hk
            refine ⟨r, sc, xs, y, rfl, y0, by omega, R9, fun z H10 z0 z1 s10 R10 => ?_⟩
            have hp10 := s10 _ _ nrp.symm (s9 _ _ nrp.symm hp8)
            refine ⟨(i : Int) + 1, z, rfl, rfl, p, _, _, rfl, rfl, hp10, small, ?_⟩
            obtain ⟨zn, rfl⟩ : ∃ zn : Nat, z = (zn : Int) := ⟨z.toNat, by omega⟩
            exact done (some (i + 1 + zn)) _ (((((s05.trans s6).trans (.of s7)).trans (.of (same_new nl))).trans s9).trans s10) R10 hp10 fun e z => by cases z; omega
        refine (yt_test (y_eq (σ := [some (.ref r), some (.int m), some (.int (n : Int)), some (.ref p), some (.int way), some (.int (i : Int)), some (.int ((n : Int) - 1 - (i : Int)))]) (y_var (i := 4) (v := .int way) (.int _)) y_int ok_int ok_int)).go fun H6 s6 => ite2 (fun h6 => ?_) (fun h6 => ?_)
        · refine taken_go (j := 0) (σ := [some (.ref r), some (.int m), some (.int (n : Int)), some (.ref p), some (.int way), some (.int (i : Int)), some (.int ((n : Int) - 1 - (i : Int)))]) (R5.up s6) y_int (by decide) (by decide) rfl fun z H7 z0 z1 s7 R7 => ?_
          have s07 := (SameX.of (r := r) s6).trans s7
          have hp7 := s7 _ _ nrp.symm (s6 _ _ hp5)
          refine ⟨.int z, .int 0, .int z, .int 0, ok_int, ok_int, _, rfl, ite2 (fun h7 => ?_) (fun h7 => ?_)⟩
          · exact ⟨.ref p, rfl, .inl ⟨rfl, _, SqL.of hp7⟩, p, _, _, rfl, rfl, hp7, small, done none _ (s05.trans s07) R7 hp7 (fun e z => nomatch z)⟩
          · exact other H7 s07 R7 hp7
        · exact iteF (other H6 (.of s6) (R5.up s6) (s6 _ _ hp5))
    · rintro σ Hn ⟨y5, y6, pre, rfl, sn, Rn, hp, hl, hpre⟩
      refine ret_go (y_tupOf (y_var (i := 3) (v := .ref p) (.lst hp (repAll_vO pre)))) fun v H6 s6 rv => q pre v H6 ⟨by omega, by omega, fun k e h => ?_⟩ (by omega) rv (sn.trans (.of s6)) (Rn.up s6)
      unfold up at h
      rw [List.getD_eq_getElem?_getD] at h
      cases g : pre[k]? with
      | none => rw [g] at h; cases h
      | some o =>
        rw [g] at h
        have h' : o = some e := h
        rw [hl]
        exact hpre k e (by rw [g, h'])
end
end CD
set_option Elab.async false
set_option linter.all false
set_option maxRecDepth 100000
set_option maxHeartbeats 4000000
namespace CD
open PySem PySem.Spec L2
open PyProof.Rows hiding St
def upIn (nest : Nest) (s : List Nat) (k : Nat) : Bool := match up nest k with | none => false | some e => s.contains e
theorem any_o (l : List Nat) : ∀ o : Option Nat, ((dNs l).any fun d => PyData.eqv d (dO o)) = match o with | none => false | some e => l.contains e
  | some e => any_ns l e
  | none => by
    induction l with
    | nil => rfl
    | cons a l ih =>
      show (PyData.eqv (dN a) .none || (dNs l).any _) = false
      rw [ih]
      rfl
theorem closeF_succ (nest : Nest) : ∀ (i : Nat) (s : List Nat), closeF nest (i + 1) s = closeStep nest (closeF nest i s)
  | 0, _ => rfl
  | i + 1, s => by
    show closeF nest (i + 1) (closeStep nest s) = closeStep nest (closeF nest i (closeStep nest s))
    exact closeF_succ nest i _
theorem closeF_len (nest : Nest) (d : Nat) : ∀ i, (closeF nest i [d]).length ≤ 1 + i * nest.length
  | 0 => by show 1 ≤ 1 + 0 * _; omega
  | i + 1 => by
    rw [closeF_succ]
    have ih := closeF_len nest d i
    unfold closeStep
    rw [List.length_append]
    refine Nat.le_trans (Nat.add_le_add_left (List.length_filter_le _ _) _) ?_
    rw [List.length_range, Nat.succ_mul]
    omega
theorem small_mul {n i : Nat} (hn : n ≤ 5) (hi : i ≤ 5) : i * n ≤ 25 := Nat.mul_le_mul hi hn
theorem arg1_go {t : TE} {σ : L2.St} {H : Hp} {Q : List V → Hp → Prop} (h : t σ H fun v H1 => Q [v] H1) : tCons t tNil σ H Q := h
theorem cb_go {r : List V → Hp → VK → Prop} {t : TA} {σ : L2.St} {H : Hp} {Q : VK} (h : t σ H fun vs H1 => r vs H1 Q) : tCB r t σ H Q := h
section
variable {P : Program} {w : World} {K : PySem.W.Frag} {mg : Str → Option Value} {base : Heap} {tk : Tok} {f f1 f2 f3 f4 f5 : Addr} {fd fd1 fd2 fd3 fd4 fd5 : FuncData}
/-! ### _law_insides -/
abbrev s_law_insides : Stmt := topS 37
abbrev n_law_insides : List Str := ["_law_nest_here", "_law_found", "_law_door", "_law_some", "_law_turn", "_law_k"]
theorem sc_law_insides : FnScope n_law_insides ["_law_nest_here"] (defScope s_law_insides) := ⟨rfl, rfl, rfl, by decide +kernel, rfl, by decide +kernel, by decide +kernel⟩
def R_law_insides (ds : List PyData) (d : PyData) : Prop := ∃ nest : Nest, Valid nest ∧ nest.length ≤ 5 ∧ ds = [nestD nest] ∧ d = .list ((List.range nest.length).map fun k => .list (dNs (inside nest k)))
abbrev D_law_insides (K : PySem.W.Frag) (mg : Str → Option Value) := Def K mg "_law_insides" s_law_insides ["_law_nest_here"]
/-- the lists laid so far: each its own, none of them the list p that holds them -/
def InsAt (Hn : Hp) (p : Addr) (nest : Nest) : List V → List Nat → Prop := Paired fun v k => ∃ b, v = .ref b ∧ b ≠ p ∧ Hn b = some (.lst (vNs (inside nest k)))
theorem ok_law_insides (D : D_law_insides K mg f fd) (T : Top mg tk) : FnOk P w K mg base CX0 1 f fd ["_law_nest_here"] (PureR R_law_insides) := by
  refine D.F.ok sc_law_insides (fun vs H Q E h => ?_) (fun cdv A outer s H vs Q E hr h => ?_)
  · obtain ⟨ds, d, r, ⟨nest, hV, h5, rfl, rfl⟩, _⟩ := h
    exact r.len
  · obtain ⟨ds, d, r, ⟨nest, hV, h5, rfl, rfl⟩, q⟩ := h
    obtain ⟨v1, rfl, r1⟩ := r.one
    have hl : (nest.map dO).length = nest.length := List.length_map ..
    refine ⟨_, (pss_cons (ps_set (i := 1) sc_law_insides.nd rfl (.inl rfl) (pe_lst pa_nil))
      (pss_cons (ps_for PassesOwn.never rfl (pi_range1 (by rfl) T.range (pa_cons (pe_callB (r := rLenS K) call_len_seq (by rfl) T.len PySem.boot_len (pa_cons (pv 0) pa_nil)) pa_nil)) (pg_name (i := 2) sc_law_insides.nd rfl (.inr rfl)) (pss_cons (ps_set (i := 3) sc_law_insides.nd rfl (.inr rfl) (pe_lst (pa_cons (pv 2) pa_nil)))
      (pss_cons (ps_for PassesOwn.never rfl (pi_range1 (by rfl) T.range (pa_cons (pe_callB (r := rLenS K) call_len_seq (by rfl) T.len PySem.boot_len (pa_cons (pv 0) pa_nil)) pa_nil)) (pg_name (i := 4) sc_law_insides.nd rfl (.inl rfl)) (pss_one (ps_set (i := 3) sc_law_insides.nd rfl (.inr rfl) (pe_op op_cat (pv 3) (pe_lc (own := [("_law_k", 5)]) (g := (gName 5)) rfl sc_law_insides.nd (pi_range1 (by rfl) T.range (pa_cons (pe_callB (r := rLenS K) call_len_seq (by rfl) T.len PySem.boot_len (pa_cons (pv 0) pa_nil)) pa_nil)) (blkOk_by (N := n_law_insides) (sc := defScope s_law_insides) (by decide +kernel)) (fun _ _ _ _ _ => (pg_name (i := 5) sc_law_insides.nd rfl (.inl rfl))) (fun _ _ _ _ _ => (pts_one (PW.pt (pw_and (pt_cmpR (r := rIn K false) op_in_seq (pe_ix (r := rIx K) ix_seq (pv 0) (pv 5) (fun _ _ => rfl)) (pv 3) (by rfl)) (pw_and1 (pt_cmpR (r := rIn K true) op_notIn_seq (pv 5) (pv 3) (by rfl))))))) (fun _ _ _ _ _ => (pv 5)))))))
      (pss_one (ps_expr (pe_bm PySem.F.plainAttrs_list PySem.F.slot_list_append PySem.F.type_list_append mt_append (pv 1) (pa_cons (pe_callB cr_sortedI (by rfl) T.sorted (by decide +kernel) (pa_cons (pe_lc (own := [("_law_k", 5)]) (g := (gName 5)) rfl sc_law_insides.nd (pi_list (pv 3)) (blkOk_by (N := n_law_insides) (sc := defScope s_law_insides) (by decide +kernel)) (fun _ _ _ _ _ => (pg_name (i := 5) sc_law_insides.nd rfl (.inl rfl))) (fun _ _ _ _ _ => (pts_one (pt_cmpR (r := rNeD K) (op_neD hr.units) (pv 5) (pv 2) (nomark _)))) (fun _ _ _ _ _ => (pv 5))) pa_nil)) pa_nil)))))))
      (pss_one (ps_ret (pv 1))))), ?_⟩
    refine ⟨Nat.zero_le _, fun p np => ?_⟩
    have s1 : Same H (upd H p (.lst [])) := same_new np
    refine for_rng_go (σ := [some v1, some (.ref p), none, none, none, none]) (n := nest.length) (ya_cons (yc (by rw [hl]) (y_lent (y_var (i := 0) (r1.up s1)))) ya_nil) (by omega) (fun k σ Hn => ∃ (y2 y3 y4 y5 : Option V) (acc : List V), σ = [some v1, some (.ref p), y2, y3, y4, y5] ∧ Same H Hn ∧ Hn p = some (.lst acc) ∧ InsAt Hn p nest acc (List.range k))
      (fun H2 s2 => ⟨none, none, none, none, [], rfl, s1.trans s2, s2 _ _ upd_same, .nil⟩) ?_ ?_
    · rintro k σ Hn hk ⟨y2, y3, y4, y5, acc, rfl, sn, hp, hI⟩
      -- some = [door]
      refine set_go (d := .list (dNs [k])) (y_lst (ya_cons (y_var (i := 2) (v := .int (k : Int)) (.int _)) ya_nil) (by simp)) fun u H2 s2 ru => ?_
      have s02 := sn.trans s2
      -- the closure
      refine for_rng_go (σ := [some v1, some (.ref p), some (.int (k : Int)), some u, y4, y5]) (n := nest.length) (ya_cons (yc (by rw [hl]) (y_lent (y_var (i := 0) (r1.up s02)))) ya_nil) (by omega) (fun i σ H3 => ∃ (y3 : V) (y4 y5 : Option V), σ = [some v1, some (.ref p), some (.int (k : Int)), some y3, y4, y5] ∧ Same H2 H3 ∧ Rep H3 y3 (.list (dNs (closeF nest i [k]))))
        (fun H3 s3 => ⟨u, y4, y5, rfl, s3, ru.up s3⟩) ?_ ?_
      · rintro i σ H3 hi ⟨y3, y4, y5, rfl, s3, ry⟩
        have s03 := s02.trans s3
        have cl := closeF_len nest k i
        have cb := small_mul h5 (show i ≤ 5 by omega)
        refine set1_go (yc (e := .list (dNs (closeF nest (i + 1) [k]))) ?_ (y_cat (y_var (i := 3) ry) (y_lcR (n := nest.length) (f := dN) (p := fun x => upIn nest (closeF nest i [k]) x && !(closeF nest i [k]).contains x) (ya_cons (yc (by rw [hl]) (y_lent (y_var (i := 0) (r1.up s03)))) ya_nil) (by omega) (fun _ _ => rfl) (fun _ => rfl) fun x hx H4 s4 => ⟨?_, fun _ => y_var (.int _)⟩) ?_)) fun v H4 s4 rv => ⟨v, _, _, rfl, s3.trans s4, rv⟩
        · rw [closeF_succ]
          unfold closeStep dNs
          rw [List.map_append]
          rfl
        · exact yt_and (ytc (any_o _ _) (yt_test (y_in (y_ixt (y_var (i := 0) ((r1.up s03).up s4)) (y_var (i := 5) (v := .int (x : Int)) (.int _)) (nest_at hx)) (y_var (i := 3) (ry.up s4)) (by cases up nest x <;> rfl) (flat_ns _)))) fun _ => ytc (by rw [any_ns]) (yt_test (y_nin (y_var (i := 5) (v := .int (x : Int)) (.int _)) (y_var (i := 3) (ry.up s4)) rfl (flat_ns _)))
        · rw [List.length_map, List.length_map]
          have h := List.length_filter_le (fun x => upIn nest (closeF nest i [k]) x && !(closeF nest i [k]).contains x) (List.range nest.length)
          rw [List.length_range] at h
          omega
      · rintro σ H3 ⟨y3, y4, y5, rfl, s3, ry⟩
        have s03 := s02.trans s3
        have hp3 := s3 _ _ (s2 _ _ hp)
        have cl := closeF_len nest k nest.length
        have cb := small_mul h5 h5
        -- found.append(sorted([..]))
        refine ⟨.ref p, rfl, .inl ⟨rfl, _, SqL.of hp3⟩, ?_⟩
        refine arg1_go (cb_go (arg1_go ((y_lc (i := 5) (vs := [5]) (xs := closeF nest nest.length [k]) (enc := dN) (f := dN) (p := fun x => !(x == k)) (y_var (i := 3) ry) (by omega) (fun _ _ => rfl) (fun _ => rfl) fun x hx v H4 s4 rx => ⟨?_, fun _ => y_var (i := 5) rx⟩).go fun v H5 s5 rv => ?_)))
        · refine ytc ?_ (yt_test (y_ne (y_var (i := 5) rx) (y_var (i := 2) (v := .int (k : Int)) (.int _)) ok_int ok_int))
          show (!PyData.eqv (dN x) (dN k)) = !(x == k)
          rw [ev_nn]
          rfl
        · obtain ⟨a, ys, rfl, h1, h2⟩ := rv.toLst
          rw [repAll_n h2] at h1
          have h1' : H5 a = some (.lst ((iNs (closed nest k)).map V.int)) := by rw [← iNs_V]; exact h1
          refine ⟨a, iNs (closed nest k), rfl, SqL.of h1', fun ns' b e1 e2 nb => ?_⟩
          have en : ns' = iNs (inside nest k) := sorted_ns e1 e2 (closed_perm hV h5 hk).symm ((inside_sorted nest k).imp fun h => Nat.le_of_lt h)
          subst en
          have hp5 := s5 _ _ hp3
          have nbp : b ≠ p := fun z => by rw [z, hp5] at nb; cases nb
          have np0 : H b = none := (s03.trans s5).free nb
          have hp6 : upd H5 b (.lst ((iNs (inside nest k)).map V.int)) p = some (.lst acc) := by rw [upd_ne nbp.symm]; exact hp5
          refine ⟨p, acc, .ref b, rfl, rfl, hp6, ?_, some (.int (k : Int)), some y3, y4, y5, acc ++ [.ref b], rfl, fun c o e => ?_, upd_same, ?_⟩
          · rw [hI.length, List.length_range]; exact small1000 (by omega)
          · rw [upd_ne (ne_of_none e np), upd_ne (ne_of_none e np0)]
            exact s5 _ _ (s03 _ _ e)
          · rw [List.range_succ]
            refine Paired.snoc (Paired.mapP hI fun v j ⟨c, e1, e2, e3⟩ => ⟨c, e1, e2, ?_⟩) ⟨b, rfl, nbp, ?_⟩
            · have e3' := s5 _ _ (s3 _ _ (s2 _ _ e3))
              rw [upd_ne e2, upd_ne (ne_of_none e3' nb)]
              exact e3'
            · rw [upd_ne nbp, upd_same, ← iNs_V]
    · rintro σ Hn ⟨y2, y3, y4, y5, acc, rfl, sn, hp, hI⟩
      refine ⟨_, rfl, q _ Hn sn (.lst hp ?_)⟩
      have key : ∀ {vs : List V} {l : List Nat}, InsAt Hn p nest vs l → RepAll Hn vs (l.map fun k => .list (dNs (inside nest k))) := by
        intro vs l h
        unfold InsAt at h
        induction h with
        | nil => exact .nil
        | cons h t ih =>
          obtain ⟨b, rfl, _, e⟩ := h
          exact .cons (.lst e (repAll_of_n _)) ih
      exact key hI
end
end CD
set_option Elab.async false
set_option linter.all false
set_option maxRecDepth 100000
set_option maxHeartbeats 4000000
namespace CD
open PySem PySem.Spec L2
open PyProof.Rows hiding St
abbrev tuD (o : List Nat) : PyData := .tuple (dNs o)
abbrev insD (nest : Nest) : PyData := .list ((List.range nest.length).map fun k => .list (dNs (inside nest k)))
def oneStep (n : Nat) (o : List Nat) : List (List Nat) := ((List.range n).filter fun x => !o.contains x).map fun x => o ++ [x]
theorem ordersF_small : ((List.range 6).all fun n => (List.range (n + 1)).all fun k => decide ((ordersF n k).length ≤ 120) && (ordersF n k).all fun o => decide (o.length ≤ 5)) = true := by decide +kernel
theorem ordersF_le {n k : Nat} (hn : n ≤ 5) (hk : k ≤ n) : (ordersF n k).length ≤ 120 ∧ ∀ o ∈ ordersF n k, o.length ≤ 5 := by
  have h := List.all_eq_true.mp (List.all_eq_true.mp ordersF_small n (List.mem_range.mpr (by omega))) k (List.mem_range.mpr (by omega))
  rw [Bool.and_eq_true] at h
  exact ⟨of_decide_eq_true h.1, fun o ho => of_decide_eq_true (List.all_eq_true.mp h.2 o ho)⟩
theorem flat_take {α β : Type} (f : α → List β) (l : List α) (j : Nat) : ((l.take j).flatMap f).length ≤ (l.flatMap f).length := by
  conv => rhs; rw [← List.take_append_drop j l]
  rw [List.flatMap_append, List.length_append]
  exact Nat.le_add_right _ _
section
variable {P : Program} {w : World} {K : PySem.W.Frag} {mg : Str → Option Value} {base : Heap} {tk : Tok} {f f1 f2 f3 f4 f5 : Addr} {fd fd1 fd2 fd3 fd4 fd5 : FuncData}
/-! ### _law_orders -/
abbrev s_law_orders : Stmt := topS 38
abbrev n_law_orders : List Str := ["_law_names", "_law_found", "_law_turn", "_law_more", "_law_one", "_law_x"]
theorem sc_law_orders : FnScope n_law_orders ["_law_names"] (defScope s_law_orders) := ⟨rfl, rfl, rfl, by decide +kernel, rfl, by decide +kernel, by decide +kernel⟩
def R_law_orders (ds : List PyData) (d : PyData) : Prop := ∃ n : Nat, n ≤ 5 ∧ ds = [tuD (List.range n)] ∧ d = .list ((orders n).map tuD)
abbrev D_law_orders (K : PySem.W.Frag) (mg : Str → Option Value) := Def K mg "_law_orders" s_law_orders ["_law_names"]
theorem ok_law_orders (D : D_law_orders K mg f fd) (T : Top mg tk) : FnOk P w K mg base CX0 1 f fd ["_law_names"] (PureR R_law_orders) := by
  refine D.F.ok sc_law_orders (fun vs H Q E h => ?_) (fun cdv A outer s H vs Q E hr h => ?_)
  · obtain ⟨ds, d, r, ⟨n, h5, rfl, rfl⟩, _⟩ := h
    exact r.len
  · obtain ⟨ds, d, r, ⟨n, h5, rfl, rfl⟩, q⟩ := h
    obtain ⟨v1, rfl, r1⟩ := r.one
    have hl : (dNs (List.range n)).length = n := by rw [List.length_map, List.length_range]
    refine ⟨_, (pss_cons (ps_set (i := 1) sc_law_orders.nd rfl (.inl rfl) (pe_lst (pa_cons (pe_tupF pa_nil) pa_nil)))
      (pss_cons (ps_for PassesOwn.never rfl (pi_range1 (by rfl) T.range (pa_cons (pe_callB (r := rLenS K) call_len_seq (by rfl) T.len PySem.boot_len (pa_cons (pv 0) pa_nil)) pa_nil)) (pg_name (i := 2) sc_law_orders.nd rfl (.inl rfl)) (pss_cons (ps_set (i := 3) sc_law_orders.nd rfl (.inl rfl) (pe_lst pa_nil))
      (pss_cons (ps_for PassesOwn.never rfl (pi_list (pv 1)) (pg_name (i := 4) sc_law_orders.nd rfl (.inr rfl)) (pss_one (ps_set (i := 3) sc_law_orders.nd rfl (.inl rfl) (pe_op op_cat (pv 3) (pe_lc (own := [("_law_x", 5)]) (g := (gName 5)) rfl sc_law_orders.nd (pi_tup (pv 0)) (blkOk_by (N := n_law_orders) (sc := defScope s_law_orders) (by decide +kernel)) (fun _ _ _ _ _ => (pg_name (i := 5) sc_law_orders.nd rfl (.inl rfl))) (fun _ _ _ _ _ => (pts_one (pt_cmpR (r := rIn K true) op_notIn_seq (pv 5) (pv 4) (by rfl)))) (fun _ _ _ _ _ => (pe_op (r := rCatF K) op_catF (pv 4) (pe_tupF (pa_cons (pv 5) pa_nil)))))))))
      (pss_one (ps_set (i := 1) sc_law_orders.nd rfl (.inl rfl) (pv 3))))))
      (pss_one (ps_ret (pv 1))))), ?_⟩
    refine set_go (d := .list ((ordersF n 0).map tuD)) (y_lst (ya_cons (y_tup ya_nil (by decide)) ya_nil) (by show 1 ≤ 1000; decide)) fun u H1 s1 ru => ?_
    refine for_rng_go (σ := [some v1, some u, none, none, none, none]) (n := n) (ya_cons (yc (by rw [hl]) (y_lent (y_var (i := 0) (r1.up s1)))) ya_nil) (by omega) (fun k σ Hn => ∃ (y1 : V) (y2 y3 y4 y5 : Option V), σ = [some v1, some y1, y2, y3, y4, y5] ∧ Same H Hn ∧ Rep Hn y1 (.list ((ordersF n k).map tuD)))
      (fun H2 s2 => ⟨u, none, none, none, none, rfl, s1.trans s2, ru.up s2⟩) ?_ ?_
    · rintro k σ Hn hk ⟨y1, y2, y3, y4, y5, rfl, sn, ry⟩
      obtain ⟨o1, o2⟩ := ordersF_le h5 (Nat.le_of_lt hk)
      obtain ⟨o3, _⟩ := ordersF_le h5 (show k + 1 ≤ n from hk)
      refine set_go (d := .list ((([] : List (List Nat)).flatMap (oneStep n)).map tuD)) (y_lst ya_nil (Nat.zero_le _)) fun m0 H2 s2 rm => ?_
      have s02 := sn.trans s2
      obtain ⟨fa, xs, rfl, g1, g2⟩ := (ry.up s2).toLst
      have xl : xs.length = (ordersF n k).length := by rw [g2.len, List.length_map]
      refine ⟨.ref fa, rfl, fa, rfl, ⟨xs, SqL.of g1⟩, for_list (xs := xs) (fun j σ H3 => ∃ (y3 : V) (y4 y5 : Option V), σ = [some v1, some (.ref fa), some (.int (k : Int)), some y3, y4, y5] ∧ Same H2 H3 ∧ Rep H3 y3 (.list ((((ordersF n k).take j).flatMap (oneStep n)).map tuD)))
        ⟨m0, y4, y5, rfl, Same.refl _, rm⟩ (fun j σ H3 _ ⟨_, _, _, _, s3, _⟩ => SqL.of (s3 _ _ g1)) ?_ ?_⟩
      · rintro j x σ H3 hx ⟨y3, y4, y5, rfl, s3, r3⟩
        have hj : j < (ordersF n k).length := by rw [← xl]; exact (List.getElem?_eq_some_iff.mp hx).1
        obtain ⟨o, ho⟩ : ∃ o, (ordersF n k)[j]? = some o := ⟨_, List.getElem?_eq_getElem hj⟩
        obtain ⟨x', e1, rx⟩ := g2.get (i := j) (d := tuD o) (by rw [List.getElem?_map, ho]; rfl)
        rw [hx] at e1
        cases e1
        have rx3 := rx.up s3
        have ol := o2 o (List.mem_of_getElem? ho)
        have s03 := s02.trans s3
        have ef : ((ordersF n k).take (j + 1)).flatMap (oneStep n) = ((ordersF n k).take j).flatMap (oneStep n) ++ oneStep n o := by
          rw [List.take_add_one, ho, List.flatMap_append]
          simp
        have lf := flat_take (oneStep n) (ordersF n k) (j + 1)
        have lt : ((ordersF n k).flatMap (oneStep n)).length ≤ 120 := o3
        rw [ef, List.length_append] at lf
        refine set1_go (yc (e := .list ((((ordersF n k).take (j + 1)).flatMap (oneStep n)).map tuD)) ?_ (y_cat (y_var (i := 3) r3) (y_lcT (xs := List.range n) (enc := dN) (f := fun x => tuD (o ++ [x])) (p := fun x => !o.contains x) (y_var (i := 0) (r1.up s03)) (by rw [List.length_range]; omega) (fun x _ => noLs_ns _) (fun _ => rfl)
            fun x hx v H4 s4 rv => ⟨ytc (by rw [any_ns]) (yt_test (y_nint (y_var (i := 5) rv) (y_var (i := 4) (rx3.up s4)) rfl (flat_ns _))), fun _ => yc ?_ (y_catT (y_var (i := 4) (rx3.up s4)) (y_tup (ya_cons (y_var (i := 5) rv) ya_nil) (by simp)) ?_)⟩) ?_)) fun v H4 s4 rv => ⟨v, _, _, rfl, s3.trans s4, rv⟩
        · rw [ef, List.map_append (f := tuD)]
          unfold oneStep
          rw [List.map_map (g := tuD)]
          rfl
        · unfold tuD dNs
          rw [List.map_append]
          rfl
        · rw [List.length_map, List.length_singleton]; omega
        · rw [List.length_map, List.length_map]
          have : (oneStep n o).length = (List.filter (fun x => !o.contains x) (List.range n)).length := List.length_map ..
          omega
      · rintro σ H3 ⟨y3, y4, y5, rfl, s3, r3⟩
        rw [xl, List.take_length] at r3
        exact set1_go (y_var (i := 3) r3) fun v H4 s4 rv => ⟨v, _, _, _, _, rfl, s02.trans (s3.trans s4), rv⟩
    · rintro σ Hn ⟨y1, y2, y3, y4, y5, rfl, sn, ry⟩
      exact ⟨_, rfl, q _ Hn sn ry⟩
/-! ### _law_ranks -/
abbrev s_law_ranks : Stmt := topS 39
abbrev n_law_ranks : List Str := ["_law_some", "_law_order", "_law_found", "_law_k", "_law_ahead", "_law_x"]
theorem sc_law_ranks : FnScope n_law_ranks ["_law_some", "_law_order"] (defScope s_law_ranks) := ⟨rfl, rfl, rfl, by decide +kernel, rfl, by decide +kernel, by decide +kernel⟩
def R_law_ranks (ds : List PyData) (d : PyData) : Prop := ∃ (nest : Nest) (order : List Nat), Valid nest ∧ nest.length ≤ 5 ∧ IsOrder nest order ∧ ds = [insD nest, tuD order] ∧ d = tuD (ranks nest order)
abbrev D_law_ranks (K : PySem.W.Frag) (mg : Str → Option Value) := Def K mg "_law_ranks" s_law_ranks ["_law_some", "_law_order"]
theorem ok_law_ranks (D : D_law_ranks K mg f fd) (T : Top mg tk) : FnOk P w K mg base CX0 1 f fd ["_law_some", "_law_order"] (PureR R_law_ranks) := by
  refine D.F.ok sc_law_ranks (fun vs H Q E h => ?_) (fun cdv A outer s H vs Q E hr h => ?_)
  · obtain ⟨ds, d, r, ⟨nest, order, hV, h5, O, rfl, rfl⟩, _⟩ := h
    exact r.len
  · obtain ⟨ds, d, r, ⟨nest, order, hV, h5, O, rfl, rfl⟩, q⟩ := h
    obtain ⟨v1, v2, rfl, r1, r2⟩ := r.two
    have hl : ((List.range nest.length).map fun k => PyData.list (dNs (inside nest k))).length = nest.length := by rw [List.length_map, List.length_range]
    refine ⟨_, (pss_cons (ps_set (i := 2) sc_law_ranks.nd rfl (.inl rfl) (pe_lst pa_nil))
      (pss_cons (ps_for PassesOwn.never rfl (pi_range1 (by rfl) T.range (pa_cons (pe_callB (r := rLenS K) call_len_seq (by rfl) T.len PySem.boot_len (pa_cons (pv 0) pa_nil)) pa_nil)) (pg_name (i := 3) sc_law_ranks.nd rfl (.inl rfl)) (pss_cons (ps_set (i := 4) sc_law_ranks.nd rfl (.inr rfl) (pe_slice (r := rSlF K) sl_tupF (pv 1) po_none (po_some (pe_bmF PySem.F.slot_tuple_index PySem.F.type_tuple_index mt_tidx (pv 1) (pa_cons (pv 3) pa_nil)))))
      (pss_one (ps_expr (pe_bm PySem.F.plainAttrs_list PySem.F.slot_list_append PySem.F.type_list_append mt_append (pv 2) (pa_cons (pe_callB (r := rLenS K) call_len_seq (by rfl) T.len PySem.boot_len (pa_cons (pe_lc (own := [("_law_x", 5)]) (g := (gName 5)) rfl sc_law_ranks.nd (pi_list (pe_ix (r := rIx K) ix_seq (pv 0) (pv 3) (fun _ _ => rfl))) (blkOk_by (N := n_law_ranks) (sc := defScope s_law_ranks) (by decide +kernel)) (fun _ _ _ _ _ => (pg_name (i := 5) sc_law_ranks.nd rfl (.inl rfl))) (fun _ _ _ _ _ => (pts_one (pt_cmpR (r := rIn K false) op_in_seq (pv 5) (pv 4) (by rfl)))) (fun _ _ _ _ _ => (pv 5))) pa_nil)) pa_nil))))))
      (pss_one (ps_ret (pe_callTy (r := rTupS K) call_tupF (by rfl) T.tuple (by decide +kernel) (pa_cons (pv 2) pa_nil)))))), ?_⟩
    refine ⟨Nat.zero_le _, fun p np => ?_⟩
    have s1 : Same H (upd H p (.lst [])) := same_new np
    refine for_rng_go (σ := [some v1, some v2, some (.ref p), none, none, none]) (n := nest.length) (ya_cons (yc (by rw [hl]) (y_len (y_var (i := 0) (r1.up s1)))) ya_nil) (by omega) (fun k σ Hn => ∃ (y3 y4 y5 : Option V), σ = [some v1, some v2, some (.ref p), y3, y4, y5] ∧ Same H Hn ∧ Hn p = some (.lst (vNs ((List.range k).map (rank nest order)))))
      (fun H2 s2 => ⟨none, none, none, rfl, s1.trans s2, s2 _ _ upd_same⟩) ?_ ?_
    · rintro k σ Hn hk ⟨y3, y4, y5, rfl, sn, hp⟩
      have rk : ∀ {H' : Hp}, Rep H' (V.int (k : Int)) (dN k) := .int _
      refine set_go (d := tuD (order.take (order.idxOf k))) (yc ?_ (y_takeT (y_var (i := 1) (r2.up sn)) (y_idx (y_var (i := 1) (r2.up sn)) (ya_cons (y_var (i := 3) rk) ya_nil) (O.all k hk)))) fun u H2 s2 ru => ?_
      · unfold tuD dNs
        rw [List.map_take]
      · have s02 := sn.trans s2
        have hp2 := s2 _ _ hp
        refine ⟨.ref p, rfl, .inl ⟨rfl, _, SqL.of hp2⟩, ?_⟩
        have il : (inside nest k).length ≤ 5 := by
          unfold inside
          have := List.length_filter_le (fun j => (around nest j).contains k) (List.range k)
          rw [List.length_range] at this
          omega
        refine arg1_go (Y.go (d := dN (rank nest order k)) (yc ?_ (y_len (y_lc (i := 5) (xs := inside nest k) (enc := dN) (f := dN) (p := fun x => (order.take (order.idxOf k)).contains x) (y_ix (y_var (i := 0) (r1.up s02)) (y_var (i := 3) rk) (atI_nat (by rw [List.getElem?_map, List.getElem?_range hk]; rfl))) (by omega) (fun _ _ => rfl) (fun _ => rfl)
            fun x hx v H3 s3 rv => ⟨ytc (any_ns _ _) (yt_test (y_int_ (y_var (i := 5) rv) (y_var (i := 4) (ru.up s3)) rfl (flat_ns _))), fun _ => y_var (i := 5) rv⟩))) fun v H3 s3 rv => ?_)
        · rw [List.length_map, ← lawRank_eq O k]
          rfl
        · rw [rv.toInt]
          refine ⟨p, _, _, rfl, rfl, s3 _ _ hp2, ?_, _, _, _, rfl, fun b o e => ?_, ?_⟩
          · rw [List.length_map, List.length_map, List.length_range]; exact small1000 (by omega)
          · rw [upd_ne (ne_of_none e np)]
            exact s3 _ _ (s02 _ _ e)
          · rw [upd_same, List.range_succ, List.map_append]
            unfold vNs
            rw [List.map_append]
            rfl
    · rintro σ Hn ⟨y3, y4, y5, rfl, sn, hp⟩
      exact ret_go (y_tupOf (y_var (i := 2) (v := .ref p) (.lst hp (repAll_of_n _)))) fun v H6 s6 rv => q v H6 (sn.trans s6) rv
end
end CD
set_option Elab.async false
set_option linter.all false
set_option maxRecDepth 100000
set_option maxHeartbeats 4000000
/-! set tables of any of the masks that some hundred members need -/
namespace CD
open PySem PySem.Spec L2
open PyProof.Rows hiding St
/-! ### the round of the mask 511 -/
def fiveOne (x : Nat) : Nat := (x * 5 + 1) % 512
def orb : Nat → Nat → List Nat
  | x, 0 => [x]
  | x, n + 1 => x :: orb (fiveOne x) n
def coversAll (l : List Nat) : Bool := (List.range 512).all fun j => l.contains j
theorem orb_covers : coversAll (orb 0 511) = true := by decide +kernel
theorem lcgI_in (x : Nat) : ∀ b, lcgI 511 (fiveOne x) b = lcgI 511 x (b + 1)
  | 0 => rfl
  | b + 1 => by
    show (lcgI 511 (fiveOne x) b * 5 + 1) % 512 = (lcgI 511 x (b + 1) * 5 + 1) % 512
    rw [lcgI_in x b]
theorem orb_mem : ∀ (n x y : Nat), y ∈ orb x n → ∃ b, b ≤ n ∧ lcgI 511 x b = y
  | 0, x, y, h => ⟨0, Nat.le_refl _, (List.mem_singleton.mp h).symm⟩
  | n + 1, x, y, h => by
    rcases List.mem_cons.mp h with e | h
    · exact ⟨0, Nat.zero_le _, e.symm⟩
    · obtain ⟨b, hb, e⟩ := orb_mem n (fiveOne x) y h
      exact ⟨b + 1, by omega, by rw [← lcgI_in]; exact e⟩
theorem lcgN_I : ∀ b, lcgN 511 b = lcgI 511 0 b
  | 0 => rfl
  | b + 1 => by
    show (lcgN 511 b * 5 + 1) % 512 = (lcgI 511 0 b * 5 + 1) % 512
    rw [lcgN_I b]
theorem back511 : lcgN 511 512 = 0 := by decide +kernel
theorem lcgI_add (x a : Nat) : ∀ k, lcgI 511 (lcgI 511 x a) k = lcgI 511 x (a + k)
  | 0 => rfl
  | k + 1 => by
    show (lcgI 511 (lcgI 511 x a) k * 5 + 1) % 512 = (lcgI 511 x (a + k) * 5 + 1) % 512
    rw [lcgI_add x a k]
theorem meets511 {i j : Nat} (hi : i ≤ 511) (hj : j ≤ 511) : ∃ k, k ≤ 511 ∧ lcgI 511 i k = j := by
  have key : ∀ y, y ≤ 511 → ∃ b, b ≤ 511 ∧ lcgI 511 0 b = y := fun y hy => orb_mem 511 0 y (List.contains_iff_mem.mp (List.all_eq_true.mp orb_covers y (List.mem_range.mpr (by omega))))
  obtain ⟨a, ha, ea⟩ := key i hi
  obtain ⟨b, hb, eb⟩ := key j hj
  rw [← ea]
  rcases Nat.lt_or_ge b a with c | c
  · refine ⟨512 + b - a, by omega, ?_⟩
    rw [lcgI_add, show a + (512 + b - a) = 512 + b by omega, ← lcgI_add, ← lcgN_I, back511]
    exact eb
  · refine ⟨b - a, by omega, ?_⟩
    rw [lcgI_add, show a + (b - a) = b by omega]
    exact eb
/-- a mask whose every slot begins a run soon -/
structure Met (m : Nat) : Prop where
  runs : ∀ (h : Int) (j : Nat), j ≤ m → ∃ n, n ≤ m + 12 ∧ runI m (SetTable.bits h) n = j
  odd : m % 2 = 1
  top : m ≤ 511
theorem Met.small {m : Nat} (h : MaskOk m) : Met m := ⟨fun _ _ hj => run_meets h _ hj, mask_odd h, by rcases h with e | e | e <;> omega⟩
theorem Met.large : Met 511 := ⟨fun h j hj => by
  obtain ⟨k, hk, e⟩ := meets511 (runI_le 511 (SetTable.bits h) 12) hj
  exact ⟨12 + k, by omega, by rw [runI_tail (bits_lt h)]; exact e⟩, rfl, Nat.le_refl _⟩
theorem way_top {m : Nat} {h : Int} {k : Nat} : way m h k ≤ m := by
  have q := nth_in (m := m) k (runAt m (SetTable.bits h % (m + 1)) (SetTable.bits h)) (by
    have hi : SetTable.bits h % (m + 1) < m + 1 := Nat.mod_lt _ (Nat.succ_pos _)
    have r := runEnd_bd (Nat.le_of_lt_succ hi)
    show SetTable.bits h % (m + 1) + (SetTable.runEnd m (SetTable.bits h % (m + 1)) - SetTable.bits h % (m + 1)) ≤ m
    omega)
  exact Nat.le_trans (Nat.le_add_right _ _) q
/-- K: the first step of h's way that leads out of the places -/
structure Free (m : Nat) (h : Int) (pl : List Nat) (K : Nat) : Prop where
  out : way m h K ∉ pl
  ins : ∀ k, k < K → way m h k ∈ pl
structure TabN (t : SetTable) (hs : List Int) : Prop where
  ris : Ris t.place.toList
  dm : t.dummies = #[]
  sz : t.place.size = hs.length
  met : Met t.mask
  bd : ∀ x ∈ t.place.toList, x ≤ t.mask
  reach : ∀ (i : Nat) (h : Int) (j : Nat), hs[i]? = some h → t.place.toList[i]? = some j → ∃ k, way t.mask h k = j ∧ ∀ k', k' < k → way t.mask h k' ∈ t.place.toList
section
variable {t : SetTable} {hs : List Int} {h : Int}
theorem TabN.len (T : TabN t hs) : t.place.toList.length = hs.length := T.sz
theorem TabN.free (T : TabN t hs) (hl : hs.length ≤ t.mask) (h : Int) : ∃ K, K < 10 * SetTable.turns t.mask ∧ Free t.mask h t.place.toList K := by
  obtain ⟨j, hj, hn⟩ := st_missing t.place.toList (t.mask + 1) (by rw [T.len]; omega)
  obtain ⟨n, n1, e⟩ := T.met.runs h j (Nat.le_of_lt_succ hj)
  obtain ⟨k, k1, e2⟩ := run_nth t.mask (SetTable.bits h) n
  have hk : way t.mask h k = j := (congrArg SetTable.Probe.j e2).trans e
  obtain ⟨K, a, b, c⟩ := st_least (p := fun k => way t.mask h k ∉ t.place.toList) k (fun z => hn (hk ▸ z))
  exact ⟨K, by unfold SetTable.turns; omega, b, fun k' hk' => Classical.not_not.mp (c k' hk')⟩
theorem TabN.ahead (T : TabN t hs) {K i j : Nat} (F : Free t.mask h t.place.toList K) (hi : hs[i]? = some h) (hj : t.place.toList[i]? = some j) : ∃ k, k < K ∧ way t.mask h k = j := by
  obtain ⟨k, e, hb⟩ := T.reach i h j hi hj
  refine ⟨k, Nat.lt_of_not_le fun c => ?_, e⟩
  rcases Nat.lt_or_eq_of_le c with c | c
  · exact F.out (hb K c)
  · exact F.out (by rw [c, e]; exact List.mem_of_getElem? hj)
/-- one more at the free place -/
theorem TabN.put (T : TabN t hs) {K p : Nat} (F : Free t.mask h t.place.toList K) (hp : p = SetTable.below t.place (way t.mask h K)) :
    p ≤ hs.length ∧ TabN (t.put (way t.mask h K)).1 (hs.take p ++ h :: hs.drop p) ∧ (t.put (way t.mask h K)).1.fill = hs.length + 1 := by
  obtain ⟨j, hj⟩ : ∃ j, way t.mask h K = j := ⟨_, rfl⟩
  rw [hj] at hp ⊢
  have hout : j ∉ t.place.toList := hj ▸ F.out
  have c1 := (below_cut T.ris j).1
  rw [← hp] at c1
  have pl : p ≤ t.place.toList.length := c1
  have ph : p ≤ hs.length := by rw [← T.sz]; exact c1
  have e := put_place t j
  rw [← hp] at e
  have more : ∀ {x : Nat}, x ∈ t.place.toList → x ∈ (t.put j).1.place.toList := fun hx => by rw [e]; exact mem_ins.2 (.inr hx)
  have size : (t.put j).1.place.size = hs.length + 1 := by
    have := len_ins t.place.toList pl j
    rw [← e, T.len] at this
    exact this
  refine ⟨ph, ⟨ris_insert T.ris fun z => hout (List.mem_of_getElem? (by rw [Array.getElem?_toList]; exact z)), put_dm T.dm j, by rw [len_ins _ ph]; exact size, T.met, fun x hx => ?_, fun i h' j' h1 h2 => ?_⟩, ?_⟩
  · rw [e] at hx
    rcases mem_ins.1 hx with z | z
    · rw [z, ← hj]; exact way_top
    · exact T.bd x z
  · have old : ∀ i, hs[i]? = some h' → t.place.toList[i]? = some j' → ∃ k, way t.mask h' k = j' ∧ ∀ k', k' < k → way t.mask h' k' ∈ (t.put j).1.place.toList := fun i a b =>
      let ⟨k, q, z⟩ := T.reach i h' j' a b
      ⟨k, q, fun k' hk' => more (z k' hk')⟩
    rw [tins_get hs ph] at h1
    rw [e, tins_get _ pl] at h2
    by_cases c : i < p
    · rw [if_pos c] at h1 h2
      exact old i h1 h2
    · rw [if_neg c] at h1 h2
      by_cases d : i = p
      · rw [if_pos d] at h1 h2
        cases h1
        cases h2
        exact ⟨K, hj, fun k' hk' => more (F.ins k' hk')⟩
      · rw [if_neg d] at h1 h2
        exact old (i - 1) h1 h2
  · show (t.put j).1.place.size + (t.put j).1.dummies.size = _
    rw [size, put_dm T.dm j]
    rfl
end
/-! ### all laid anew -/
section
variable {m : Nat} {owner : Array (Option Nat)} {done : List Int} {h : Int}
theorem freeN (hm : Met m) (h : Int) {j : Nat} (hj : j ≤ m) (hf : oAt owner j = none) :
    ∃ K, SetTable.layClean.free m owner (SetTable.turns m) (SetTable.bits h % (m + 1)) (SetTable.bits h) = some (way m h K) ∧ oAt owner (way m h K) = none ∧ ∀ k, k < K → oAt owner (way m h k) ≠ none := by
  obtain ⟨n, hn, e⟩ := hm.runs h j hj
  have e3 : way m h (off m (SetTable.bits h % (m + 1)) (SetTable.bits h) n) = j := by
    refine Eq.trans (congrArg SetTable.Probe.j (nth_off m n _ _)) ?_
    rw [itL_run]
    exact e
  obtain ⟨K, k1, k2, k3⟩ := st_least (p := fun k => oAt owner (way m h k) = none) _ (show oAt owner (way m h (off m (SetTable.bits h % (m + 1)) (SetTable.bits h) n)) = none by rw [e3]; exact hf)
  refine ⟨K, free_spec m owner (SetTable.turns m) n _ _ K (by unfold SetTable.turns; omega) k1 (fun k hk => ?_) (by rw [show oAt owner (nth m (runAt m (SetTable.bits h % (m + 1)) (SetTable.bits h)) K).j = none from k2]; rfl), k2, k3⟩
  cases z : oAt owner (nth m (runAt m (SetTable.bits h % (m + 1)) (SetTable.bits h)) k).j with
  | some _ => rfl
  | none => exact absurd z (k3 k hk)
theorem ownMore (hm : Met m) (W : Own m done owner) (hl : done.length ≤ m) (h : Int) :
    ∃ j, SetTable.layClean.free m owner (SetTable.turns m) (SetTable.bits h % (m + 1)) (SetTable.bits h) = some j ∧ Own m (done ++ [h]) (owner.setIfInBounds j (some done.length)) := by
  obtain ⟨ps, p1, p2⟩ := W.ps
  obtain ⟨q, hq, nq⟩ := st_missing ps (m + 1) (by omega)
  have free : oAt owner q = none := Classical.not_not.mp fun z => nq (p2 q (Nat.le_of_lt_succ hq) z)
  obtain ⟨K, e1, e2, e3⟩ := freeN hm h (Nat.le_of_lt_succ hq) free
  have top : way m h K ≤ m := way_top
  have self := oAt_set_self (some done.length) (show way m h K < owner.size by rw [W.sz]; omega)
  have keep : ∀ {i : Nat}, oAt owner i ≠ none → oAt (owner.setIfInBounds (way m h K) (some done.length)) i ≠ none := fun {i} hi => by
    by_cases c : i = way m h K
    · subst c; exact absurd e2 hi
    · rw [oAt_set_ne _ c]; exact hi
  have dl : (done ++ [h]).length = done.length + 1 := List.length_append
  refine ⟨_, e1, ⟨by rw [Array.size_setIfInBounds]; exact W.sz, fun j k hj e => ?_, fun k hk => ?_, way m h K :: ps, by rw [dl, List.length_cons, p1], fun j hj e => ?_⟩⟩
  · by_cases c : j = way m h K
    · subst c
      rw [self] at e
      cases e
      exact ⟨h, K, List.getElem?_concat_length, rfl, fun k' hk' => keep (e3 k' hk')⟩
    · rw [oAt_set_ne _ c] at e
      obtain ⟨h', K', a1, a2, a3⟩ := W.at_ j k hj e
      exact ⟨h', K', (List.getElem?_append_left (List.getElem?_eq_some_iff.mp a1).1).trans a1, a2, fun k' hk' => keep (a3 k' hk')⟩
  · rw [dl] at hk
    rcases Nat.lt_succ_iff_lt_or_eq.mp hk with c | c
    · obtain ⟨j, hj, e⟩ := W.all k c
      refine ⟨j, hj, (oAt_set_ne _ fun z => ?_).trans e⟩
      rw [z, e2] at e
      cases e
    · subst c
      exact ⟨_, top, self⟩
  · by_cases c : j = way m h K
    · subst c; exact List.mem_cons_self
    · rw [oAt_set_ne _ c] at e
      exact List.mem_cons_of_mem _ (p2 j hj e)
theorem ownAll (hm : Met m) : ∀ (rest done : List Int) (owner : Array (Option Nat)), Own m done owner → done.length + rest.length ≤ m →
    ∃ owner', rest.foldl (stepF m) (some (owner, done.length)) = some (owner', (done ++ rest).length) ∧ Own m (done ++ rest) owner'
  | [], done, owner, W, _ => by
    rw [List.append_nil]
    exact ⟨owner, rfl, W⟩
  | x :: rest, done, owner, W, hl => by
    rw [List.length_cons] at hl
    obtain ⟨j, e, W'⟩ := ownMore hm W (by omega) x
    have dl : (done ++ [x]).length = done.length + 1 := List.length_append
    obtain ⟨o2, f, W2⟩ := ownAll hm rest (done ++ [x]) _ W' (by omega)
    rw [dl, List.append_assoc] at f
    rw [List.append_assoc] at W2
    exact ⟨o2, by rw [List.foldl_cons, stepF_some e]; exact f, W2⟩
end
/-- the table laid anew for the wanted size, and the order in which the old ones stand now -/
theorem relaidN (t : SetTable) {hs : Array Int} {wanted M : Nat} (hw : SetTable.sizeAbove wanted - 1 = M) (hM : Met M) (hn : hs.size ≤ M) :
    ∃ t' order, t.relaid hs wanted = some (t', order) ∧ order.toList.Perm (List.range hs.size) ∧ TabN t' (order.toList.map fun i => hs.getD i 0) ∧ t'.mask = M ∧ t'.led = t.led ∧ t'.plain = t.plain := by
  obtain ⟨owner, f, W⟩ := ownAll hM hs.toList [] _ (Own.init M) (by rw [Array.length_toList]; simpa using hn)
  rw [List.nil_append] at f W
  have e : SetTable.layClean M hs = some owner := by
    rw [layClean_eq]
    exact congrArg (Option.map (·.1)) f
  have live : ∀ {j k : Nat}, (j, k) ∈ liveOf M owner ↔ j ≤ M ∧ oAt owner j = some k := fun {j k} => mem_live W.sz
  obtain ⟨r1, r2⟩ := ris_live (fun j => owner.getD j none) (List.range (M + 1)) List.pairwise_lt_range
  have inj : ((liveOf M owner).map (·.1)).Nodup := List.Pairwise.imp (fun h => Nat.ne_of_lt h) r1
  have every : ∀ k, k < hs.size → k ∈ (liveOf M owner).map (·.2) := fun k hk => by
    obtain ⟨j, b1, b2⟩ := W.all k hk
    exact List.mem_map.mpr ⟨(j, k), live.2 ⟨b1, b2⟩, rfl⟩
  have size : (liveOf M owner).length = hs.size := by
    obtain ⟨ps, p1, p2⟩ := W.ps
    have a := nat_nodup_len _ ps inj fun x hx => by
      obtain ⟨⟨y, k⟩, hq, rfl⟩ := List.mem_map.mp hx
      obtain ⟨b1, b2⟩ := live.1 hq
      exact p2 y b1 (by rw [b2]; exact fun z => nomatch z)
    have b := nat_nodup_len (List.range hs.size) _ List.nodup_range fun k hk => every k (List.mem_range.mp hk)
    have z : hs.toList.length = hs.size := rfl
    rw [List.length_map, p1] at a
    rw [List.length_map, List.length_range] at b
    omega
  refine ⟨tabOf t M owner, ((liveOf M owner).map (·.2)).toArray, by rw [relaid_eq, hw, e]; rfl, perm_range hs.size _ (by rw [List.length_map]; exact size) every, ⟨r1, rfl, ?_, hM, fun x hx => Nat.le_of_lt_succ (List.mem_range.mp (r2 x hx)), fun i h j h1 h2 => ?_⟩, rfl, rfl, rfl⟩
  · show ((liveOf M owner).map (·.1)).toArray.size = (((liveOf M owner).map (·.2)).map fun i => hs.getD i 0).length
    simp
  · have h1' : (((liveOf M owner).map (·.2)).map fun i => hs.getD i 0)[i]? = some h := h1
    have h2' : ((liveOf M owner).map (·.1))[i]? = some j := h2
    rw [List.map_map, List.getElem?_map] at h1'
    rw [List.getElem?_map] at h2'
    obtain ⟨⟨y, k⟩, hq, rfl⟩ := Option.map_eq_some_iff.mp h2'
    rw [hq] at h1'
    obtain ⟨b1, b2⟩ := live.1 (List.mem_of_getElem? hq)
    obtain ⟨h0, K, a1, a2, a3⟩ := W.at_ y k b1 b2
    have e0 : h0 = h := by
      rw [Array.getElem?_toList] at a1
      have q : hs.getD k 0 = h := Option.some.inj h1'
      rw [Array.getD_eq_getD_getElem?, a1] at q
      exact q
    subst e0
    refine ⟨K, a2, fun k' hk' => ?_⟩
    cases z : oAt owner (way M h0 k') with
    | none => exact absurd z (a3 k' hk')
    | some k2 => exact List.mem_map.mpr ⟨(way M h0 k', k2), live.2 ⟨way_top, z⟩, rfl⟩
theorem size_308 : SetTable.sizeAbove (SetTable.grown 77) = 512 := by decide +kernel
end CD
set_option Elab.async false
set_option linter.all false
set_option maxRecDepth 100000
set_option maxHeartbeats 1000000
/-! sets whose members are tuples of numbers and of such tuples -/
namespace CD
open PySem PySem.Spec L2
open PyProof.Rows hiding St
/-! ### keys without texts -/
mutual
def numK : NestedKey → Bool
  | .none => true
  | .num _ => true
  | .text _ => false
  | .tup ks => numKs ks
def numKs : List NestedKey → Bool
  | [] => true
  | k :: ks => numK k && numKs ks
end
section
variable {P : Program} {w : World}
/-- no class statement down to n levels; hashed by value -/
def OffAt (P : Program) (w : World) (n : Nat) (s : Shared) (v : Value) : Prop := ∀ (A : Around) (E : Value → Shared → Prop) (Q : Bool → Shared → Prop), Q false s → wpAny (model P w) A (ofAClassStatement n v) Q E s
def ByAt (P : Program) (w : World) (n : Nat) (s : Shared) (v : Value) : Prop := ∀ (A : Around) (E : Value → Shared → Prop) (Q : Bool → Shared → Prop), Q true s → wpAny (model P w) A (hashByValue n v) Q E s
theorem OffAt.flat {n : Nat} {s : Shared} {v : Value} (e : ofAClassStatement n v = pure false) : OffAt P w n s v := fun A E Q q => by rw [e]; exact wpAny_pure q
theorem ByAt.flat {n : Nat} {s : Shared} {v : Value} (e : hashByValue n v = pure true) : ByAt P w n s v := fun A E Q q => by rw [e]; exact wpAny_pure q
theorem OffAt.tup {n m : Nat} {s : Shared} {a : Addr} {o : Obj} {vs : Array Value} (g1 : s.heap.get? a = some o) (g2 : o.cls = .type "tuple") (g3 : o.data = .seq vs m) (g4 : ∀ v ∈ vs.toList, OffAt P w n s v) : OffAt P w (n + 1) s (.ref a) := fun A E Q q => by
  unfold ofAClassStatement
  refine wpAny_bind (wpAny_typeOf (T := "tuple") ⟨o, g1, g2⟩ ?_)
  have tt : (("tuple" : String) == "tuple") = true := by decide
  simp only [tt, if_true, Bool.not_true, Bool.false_eq_true, if_false]
  try (refine wpAny_bind (wpAny_pure ?_); simp only [Bool.not_true, Bool.false_eq_true, if_false])
  show wpAny _ A (seqItems? (.ref a) >>= _) _ E s
  refine wpAny_bind (wpAny_seqItems g1 g3 ?_)
  dsimp only
  refine wpAny_bind (?_ : wpAny _ A (forIn vs _ _) _ E s)
  rw [← Array.forIn_toList]
  refine wpAny_forIn_list _ (fun rest r s1 => r.1 = none ∧ s1 = s ∧ ∀ v ∈ rest, OffAt P w n s v) _ (fun v rest r s1 inv => ?_) (fun r s1 inv => ?_) _ _ ⟨rfl, rfl, g4⟩
  · obtain ⟨_, rfl, all⟩ := inv
    refine wpAny_bind (all v List.mem_cons_self _ _ _ ?_)
    simp only [Bool.false_eq_true, if_false]
    exact wpAny_pure ⟨rfl, rfl, fun u hu => all u (List.mem_cons_of_mem _ hu)⟩
  · obtain ⟨e, rfl, _⟩ := inv
    obtain ⟨r1, r2⟩ := r
    cases e
    exact wpAny_pure q
theorem ByAt.tup {n m : Nat} {s : Shared} {a : Addr} {o : Obj} {vs : Array Value} (g1 : s.heap.get? a = some o) (g2 : o.cls = .type "tuple") (g3 : o.data = .seq vs m) (g4 : ∀ v ∈ vs.toList, ByAt P w n s v) : ByAt P w (n + 1) s (.ref a) := fun A E Q q => by
  unfold hashByValue
  refine wpAny_bind (wpAny_specialOf (T := "tuple") ⟨o, g1, g2⟩ F.slot_tuple_hash.lookup (?_ : wpAny _ A (seqItems? (.ref a) >>= _) _ E s))
  refine wpAny_bind (wpAny_seqItems g1 g3 ?_)
  refine wpAny_bind (?_ : wpAny _ A (forIn vs _ _) _ E s)
  rw [← Array.forIn_toList]
  refine wpAny_forIn_list _ (fun rest r s1 => r.1 = none ∧ s1 = s ∧ ∀ v ∈ rest, ByAt P w n s v) _ (fun v rest r s1 inv => ?_) (fun r s1 inv => ?_) _ _ ⟨rfl, rfl, g4⟩
  · obtain ⟨_, rfl, all⟩ := inv
    refine wpAny_bind (all v List.mem_cons_self _ _ _ ?_)
    simp only [Bool.not_true, Bool.false_eq_true, if_false]
    exact wpAny_pure ⟨rfl, rfl, fun u hu => all u (List.mem_cons_of_mem _ hu)⟩
  · obtain ⟨e, rfl, _⟩ := inv
    obtain ⟨r1, r2⟩ := r
    cases e
    exact wpAny_pure q
mutual
theorem off_key : ∀ (k : NestedKey) (v : Value) (n : Nat) (s : Shared), NestedIs s.heap k v → k.depth ≤ n → OffAt P w n s v
  | .none, _, n, s, x, _ => by cases x; exact .flat (by cases n <;> rfl)
  | .num i, _, n, s, x, _ => by cases x <;> exact .flat (by cases n <;> rfl)
  | .text y, _, n, s, x, _ => by cases x; exact .flat (by cases n <;> rfl)
  | .tup ks, _, n, s, x, hn => by
    cases x with
    | tup g1 g2 g3 g4 =>
      simp only [NestedKey.depth] at hn
      obtain ⟨n, rfl⟩ : ∃ m, n = m + 1 := ⟨n - 1, by omega⟩
      exact .tup g1 g2 g3 (off_keys ks _ n s g4 (by omega))
theorem off_keys : ∀ (ks : List NestedKey) (vs : List Value) (n : Nat) (s : Shared), NestedAll s.heap ks vs → NestedKey.depthAll ks ≤ n → ∀ v ∈ vs, OffAt P w n s v
  | [], _, _, _, x, _, v, hv => by cases x; cases hv
  | k :: ks, _, n, s, x, hn, v, hv => by
    cases x with
    | cons x1 x2 =>
      simp only [NestedKey.depthAll] at hn
      rcases List.mem_cons.mp hv with e | hv
      · subst e; exact off_key k _ n s x1 (by omega)
      · exact off_keys ks _ n s x2 (by omega) v hv
end
mutual
theorem by_key : ∀ (k : NestedKey) (v : Value) (n : Nat) (s : Shared), NestedIs s.heap k v → k.depth ≤ n → numK k = true → ByAt P w n s v
  | .none, _, n, s, x, _, _ => by cases x; exact .flat (by cases n <;> rfl)
  | .num i, _, n, s, x, _, _ => by cases x <;> exact .flat (by cases n <;> rfl)
  | .text y, _, n, s, x, _, z => by cases z
  | .tup ks, _, n, s, x, hn, z => by
    cases x with
    | tup g1 g2 g3 g4 =>
      simp only [NestedKey.depth] at hn
      obtain ⟨n, rfl⟩ : ∃ m, n = m + 1 := ⟨n - 1, by omega⟩
      exact .tup g1 g2 g3 (by_keys ks _ n s g4 (by omega) z)
theorem by_keys : ∀ (ks : List NestedKey) (vs : List Value) (n : Nat) (s : Shared), NestedAll s.heap ks vs → NestedKey.depthAll ks ≤ n → numKs ks = true → ∀ v ∈ vs, ByAt P w n s v
  | [], _, _, _, x, _, _, v, hv => by cases x; cases hv
  | k :: ks, _, n, s, x, hn, z, v, hv => by
    cases x with
    | cons x1 x2 =>
      have z' : (numK k && numKs ks) = true := z
      rw [Bool.and_eq_true] at z'
      simp only [NestedKey.depthAll] at hn
      rcases List.mem_cons.mp hv with e | hv
      · subst e; exact by_key k _ n s x1 (by omega) z'.1
      · exact by_keys ks _ n s x2 (by omega) z'.2 v hv
end
/-- at a stands the key k, without texts -/
def IsK (P : Program) (w : World) (h : Heap) (k : NestedKey) (a : Addr) : Prop := (nestedKind P w).is h k a ∧ numK k = true
variable {A : Around} {E : Value → Shared → Prop} {s : Shared}
theorem IsK.keep {h h' : Heap} {k : NestedKey} {a : Addr} (x : IsK P w h k a) (kp : ∀ b o, h.get? b = some o → h'.get? b = some o) : IsK P w h' k a := ⟨nestedKind_stays.stays (fun b o _ _ e _ => kp b o e) x.1, x.2⟩
theorem IsK.but {h h' : Heap} {k : NestedKey} {a b : Addr} {o : Obj} {es : Array (Int × Value)} {ep : Nat} {t : SetTable} (x : IsK P w h k b) (ho : h.get? a = some o) (hd : o.data = .set es ep t) (hs : Heap.SameBut a h h') : IsK P w h' k b := by
  refine ⟨nestedKind_stays.stays (fun c o' _ _ e d => (hs.2 c fun z => ?_).trans e) x.1, x.2⟩
  rw [z, ho] at e
  cases e
  rw [hd] at d
  cases d
/-- a search among such keys shows nothing -/
theorem hidden {k : NestedKey} {b : Addr} {Q : Bool → Shared → Prop} (hk : IsK P w s.heap k b) {ys : List Value} (hy : ∀ y ∈ ys, ∃ k' c, y = Value.ref c ∧ IsK P w s.heap k' c) (q : Q false s) : wpAny (model P w) A (searchCouldBeSeen (.ref b) ys) Q E s := by
  unfold searchCouldBeSeen
  refine wpAny_bind (wpAny_forIn_list _ (fun rest r s1 => r.1 = none ∧ s1 = s ∧ ∀ y ∈ rest, ∃ k' c, y = Value.ref c ∧ IsK P w s.heap k' c) _ (fun v rest r s1 inv => ?_) (fun r s1 inv => ?_) _ _ ⟨rfl, rfl, hy⟩)
  · obtain ⟨_, rfl, all⟩ := inv
    obtain ⟨k', c, rfl, hc⟩ := all v List.mem_cons_self
    have go : ∀ y ∈ rest, ∃ k' c, y = Value.ref c ∧ IsK P w s1.heap k' c := fun u hu => all u (List.mem_cons_of_mem _ hu)
    dsimp only
    by_cases hv : (b == c || (carriedByValue (.ref b) && carriedByValue (.ref c))) = true
    · exact wp_if_pos hv (wpAny_pure ⟨rfl, rfl, go⟩)
    · refine wp_if_neg hv (wpAny_bind ((nestedKind P w).quiet hk.1 ?_))
      simp only [Bool.not_true, Bool.false_eq_true, if_false]
      refine wpAny_bind ((nestedKind P w).quiet hc.1 ?_)
      simp only [Bool.not_true, Bool.false_eq_true, if_false]
      refine wpAny_bind (off_key _ _ 8 s1 hk.1.1 hk.1.2 A E _ ?_)
      simp only [Bool.false_eq_true, if_false]
      refine wpAny_bind (off_key _ _ 8 s1 hc.1.1 hc.1.2 A E _ ?_)
      simp only [Bool.false_eq_true, if_false]
      exact wpAny_pure ⟨rfl, rfl, go⟩
  · obtain ⟨e, rfl, _⟩ := inv
    obtain ⟨r1, r2⟩ := r
    cases e
    exact wpAny_pure q

/-! ### the set at a with the members L -/
abbrev Mem := Addr × NestedKey
abbrev hK (w : World) (p : Mem) : Int := p.2.hash w
def rowsN (w : World) (L : List Mem) : List (Int × Value) := L.map fun p => (hK w p, Value.ref p.1)
theorem rowsN_len (L : List Mem) : (rowsN w L).length = L.length := List.length_map ..
structure SetN (P : Program) (w : World) (h : Heap) (a : Addr) (L : List Mem) (es : Array (Int × Value)) (ep : Nat) (t : SetTable) : Prop where
  ob : ∃ o, h.get? a = some o ∧ o.ExactSet ∧ o.data = .set es ep t
  rows : es.toList = rowsN w L
  tab : TabN t (L.map (hK w))
  nd : (L.map (·.2)).Nodup
  key : ∀ p ∈ L, IsK P w h p.2 p.1
  plain : t.plain = true
  led : w.params.followText "set-order" = true ∨ t.led = true
  room : L.length * 5 < t.mask * 3
  few : L.length ≤ 120
  four : t.mask = 7 ∨ t.mask = 31 ∨ t.mask = 127 ∨ t.mask = 511
variable {a : Addr} {L : List Mem} {es : Array (Int × Value)} {ep : Nat} {t : SetTable}
theorem rows_size (h : es.toList = rowsN w L) : es.size = L.length := by
  have := congrArg List.length h
  rw [rowsN_len] at this
  exact this
theorem SetN.size (R : SetN P w s.heap a L es ep t) : es.size = L.length := rows_size R.rows
theorem SetN.psz (R : SetN P w s.heap a L es ep t) : t.place.size = L.length := by
  have := R.tab.sz
  rw [List.length_map] at this
  exact this
theorem fits_of {n : Nat} (h1 : t.place.size = n) (h2 : t.dummies = #[]) (h3 : n ≤ t.mask) : t.fits n = true := by
  unfold SetTable.fits SetTable.fill
  rw [h2, Bool.and_eq_true, beq_iff_eq, decide_eq_true_eq]
  exact ⟨h1, by show t.place.size + 0 ≤ t.mask; omega⟩
theorem SetN.fits (R : SetN P w s.heap a L es ep t) : t.fits es.size = true := fits_of (R.psz.trans R.size.symm) R.tab.dm (by have := R.room; rw [R.size]; omega)
theorem SetN.entry (R : SetN P w s.heap a L es ep t) {i : Nat} {p : Mem} (h : L[i]? = some p) : es[i]? = some (hK w p, Value.ref p.1) := by
  rw [← Array.getElem?_toList, R.rows]
  unfold rowsN
  rw [List.getElem?_map, h]
  rfl
theorem SetN.here (R : SetN P w s.heap a L es ep t) : ¬ t.gaveWay = true := by
  unfold SetTable.gaveWay
  rw [R.tab.met.odd]
  decide
abbrev st0 (m : Nat) (h : Int) : SetTable.Probe := runAt m (SetTable.bits h % (m + 1)) (SetTable.bits h)
theorem nth_dummy {m : Nat} : ∀ (n : Nat) (p : SetTable.Probe), p.dummy = none → (nth m p n).dummy = none
  | 0, _, h => h
  | n + 1, p, h => nth_dummy n (adv m p) (by unfold adv; split <;> exact h)
/-- the search, from the c-th step of the way on -/
theorem seek (R : SetN P w s.heap a L es ep t) {x : Addr} {k : NestedKey} (hx : IsK P w s.heap k x) (hu : A.units + 8 < cLine) {K : Nat} (hKf : K < 10 * SetTable.turns t.mask) (F : Free t.mask (k.hash w) t.place.toList K) {Q : SetFound → Shared → Prop}
    (hin : k ∈ L.map (·.2) → Q (.there none) s) (hout : k ∉ L.map (·.2) → Q (.free (way t.mask (k.hash w) K) false) s) :
    ∀ (f c : Nat) (stand : Option SetTable.Probe), stand.getD (t.probeStart (k.hash w)) = nth t.mask (st0 t.mask (k.hash w)) c → c ≤ K → K - c < f →
      (∀ (i : Nat) p, L[i]? = some p → p.2 = k → ∃ c', c ≤ c' ∧ c' < K ∧ t.place.toList[i]? = some (way t.mask (k.hash w) c')) → wpAny (model P w) A (setSearchFrom a (.ref x) (k.hash w) true f stand) Q E s
  | 0, c, stand, _, _, hf, _ => absurd hf (Nat.not_lt_zero _)
  | f + 1, c, stand, hst, hc, hf, ahead => by
    obtain ⟨o, ho, hex, hd⟩ := R.ob
    generalize hh : k.hash w = h at *
    have sh : ∀ q, nth t.mask (nth t.mask (st0 t.mask h) c) q = nth t.mask (st0 t.mask h) (c + q) := fun q => (nth_add t.mask c _ q).symm
    have wy : ∀ q, (nth t.mask (nth t.mask (st0 t.mask h) c) q).j = way t.mask h (c + q) := fun q => congrArg SetTable.Probe.j (sh q)
    have spec := go_spec t R.tab.ris R.tab.dm (fun i => (es[i]?.map (·.1)).getD 0) h (10 * SetTable.turns t.mask) (K - c) _ (nth_dummy c (st0 t.mask h) rfl) (by omega) (fun q hq => by rw [wy]; exact F.ins (c + q) (by omega)) (by rw [wy, Nat.add_sub_cancel' hc]; exact F.out)
    have same : ∀ (i : Nat) p, L[i]? = some p → p.2 = k → (fun i => (es[i]?.map (·.1)).getD 0) i = h := fun i p hp hk => by
      show (es[i]?.map (·.1)).getD 0 = h
      rw [R.entry hp]
      show p.2.hash w = h
      rw [hk, hh]
    rw [setSearchFrom_succ]
    refine wpAny_bind (wpAny_setState_of ho hd R.fits ?_)
    dsimp only
    refine wp_if_neg R.here ?_
    try refine wpAny_bind (wpAny_pure ?_)
    rcases spec with ⟨q, i, hq, hi, _, hno, pr⟩ | ⟨hno, pr⟩
    · rw [wy] at hi pr
      rw [sh] at pr
      have met : t.probe (fun i => (es[i]?.map (·.1)).getD 0) h (nth t.mask (st0 t.mask h) c) = some (.candidate (way t.mask h (c + q)) i (nth t.mask (st0 t.mask h) (c + (q + 1)))) := pr
      rw [hst, met]
      dsimp only
      have hil : i < L.length := by
        have h1 := (List.getElem?_eq_some_iff.mp hi).1
        rw [Array.length_toList, R.psz] at h1
        exact h1
      obtain ⟨p, hp⟩ : ∃ p, L[i]? = some p := ⟨_, List.getElem?_eq_getElem hil⟩
      have hm := List.mem_of_getElem? hp
      have behind : wpAny (model P w) A (searchRest a (.ref x) h true f es t (way t.mask h (c + q)) i (nth t.mask (st0 t.mask h) (c + (q + 1)))) Q E s := by
        unfold searchRest
        rw [R.entry hp]
        dsimp only
        refine wpAny_bind (wpAny_holding ((nestedKind P w).eqBool hu (R.key p hm).1 hx.1 (wpAny_bind (wpAny_setState_of ho hd R.fits ?_))))
        dsimp only
        by_cases hk : p.2 = k
        · exact wp_if_pos (by simp [hk]) (wpAny_pure (hin (List.mem_map.mpr ⟨p, hm, hk⟩)))
        · refine wp_if_neg (by simp [hk]) ?_
          try refine wpAny_bind (wpAny_pure ?_)
          rw [sameMem]
          dsimp only
          have live : t.slot (way t.mask h (c + q)) = .live i := slot_live R.tab.ris hi
          simp only [if_true, live, R.entry hp]
          refine wpAny_bind (wpAny_isSame_ref_self (wpAny_bind (wpAny_pure ?_)))
          simp only [if_true]
          refine wp_if_neg (by simp [hk]) ?_
          rw [← hh]
          refine seek R hx hu hKf (by rw [hh]; exact F) hin (by rw [hh]; exact hout) f (c + (q + 1)) _ (by rw [hh]; rfl) (by omega) (by omega) fun i0 p0 e0 k0 => ?_
          rw [hh]
          obtain ⟨c', a1, a2, a3⟩ := ahead i0 p0 e0 k0
          refine ⟨c', Nat.lt_of_not_le fun z => ?_, a2, a3⟩
          rcases Nat.lt_or_eq_of_le (show c' ≤ c + q by omega) with y | y
          · exact hno (c' - c) i0 (by omega) (by rw [wy, Nat.add_sub_cancel' a1]; exact a3) (same i0 p0 e0 k0)
          · rw [y] at a3
            have l0 := slot_live R.tab.ris a3
            rw [live] at l0
            cases l0
            rw [hp] at e0
            cases e0
            exact hk k0
      by_cases hl : t.led = true
      · refine wp_if_neg (by simp [hl]) ?_
        try refine wpAny_bind (wpAny_pure ?_)
        exact behind
      · refine wp_if_pos (by simp [hl]) (wpAny_bind (hidden hx (fun y hy => ?_) (wp_if_neg (by decide) ?_)))
        · obtain ⟨e, he, rfl⟩ := List.mem_map.mp hy
          have h2 : e ∈ es.toList := by
            have : e ∈ es ∧ e.1 = h := by simpa using he
            simpa using this.1
          rw [R.rows] at h2
          obtain ⟨p2, m2, rfl⟩ := List.mem_map.mp h2
          exact ⟨p2.2, p2.1, rfl, R.key p2 m2⟩
        · try refine wpAny_bind (wpAny_pure ?_)
          exact behind
    · rw [wy, Nat.add_sub_cancel' hc] at pr
      have met : t.probe (fun i => (es[i]?.map (·.1)).getD 0) h (nth t.mask (st0 t.mask h) c) = some (.empty (way t.mask h K) none) := pr
      rw [hst, met]
      dsimp only
      refine wpAny_pure (hout fun hm => ?_)
      obtain ⟨p0, m0, k0⟩ := List.mem_map.mp hm
      obtain ⟨i0, l0, e0⟩ := List.getElem_of_mem m0
      have e1 : L[i0]? = some p0 := by rw [List.getElem?_eq_getElem l0, e0]
      obtain ⟨c', a1, a2, a3⟩ := ahead i0 p0 e1 k0
      exact hno (c' - c) i0 (by omega) (by rw [wy, Nat.add_sub_cancel' a1]; exact a3) (same i0 p0 e1 k0)
theorem seek0 (R : SetN P w s.heap a L es ep t) {x : Addr} {k : NestedKey} (hx : IsK P w s.heap k x) (hu : A.units + 8 < cLine) {Q : SetFound → Shared → Prop} (hin : k ∈ L.map (·.2) → Q (.there none) s)
    (hout : ∀ K, k ∉ L.map (·.2) → Free t.mask (k.hash w) t.place.toList K → Q (.free (way t.mask (k.hash w) K) false) s) : wpAny (model P w) A (setSearch a (.ref x) (k.hash w) true) Q E s := by
  obtain ⟨K, hKf, F⟩ := R.tab.free (by have := R.room; rw [List.length_map]; omega) (k.hash w)
  have big : K < 100000 := by
    have := R.tab.met.top
    unfold SetTable.turns at hKf
    omega
  refine seek R hx hu hKf F hin (fun hn => hout K hn F) 100000 0 none rfl (Nat.zero_le _) (by omega) fun i p hp hk => ?_
  have hil : i < t.place.toList.length := by
    rw [Array.length_toList, R.psz]
    exact (List.getElem?_eq_some_iff.mp hp).1
  obtain ⟨c, hc, e⟩ := R.tab.ahead F (i := i) (by rw [List.getElem?_map, hp, ← hk]; rfl) (List.getElem?_eq_getElem hil)
  exact ⟨c, Nat.zero_le _, hc, by rw [e]; exact List.getElem?_eq_getElem hil⟩
end
end CD
set_option Elab.async false
set_option linter.all false
set_option maxRecDepth 100000
set_option maxHeartbeats 1000000
/-! adding to such sets -/
namespace CD
open PySem PySem.Spec L2
open PyProof.Rows hiding St
theorem pick_all {α : Type} (l : List α) : (List.range l.length).filterMap (fun i => l[i]?) = l := by
  have key : ∀ n, n ≤ l.length → (List.range n).filterMap (fun i => l[i]?) = l.take n := by
    intro n
    induction n with
    | zero => intro _; rfl
    | succ n ih =>
      intro hn
      rw [List.range_succ, List.filterMap_append, ih (by omega), List.take_add_one, List.getElem?_eq_getElem (show n < l.length from hn)]
      simp [List.getElem?_eq_getElem (show n < l.length from hn)]
  rw [key _ (Nat.le_refl _), List.take_length]
section
variable {P : Program} {w : World} {A : Around} {E : Value → Shared → Prop} {s : Shared} {a : Addr} {L : List Mem} {es : Array (Int × Value)} {ep : Nat} {t : SetTable}
theorem row_at (hr : es.toList = rowsN w L) (i : Nat) : es[i]? = (L[i]?).map fun p => (hK w p, Value.ref p.1) := by
  rw [← Array.getElem?_toList, hr]
  exact List.getElem?_map
/-- the rows in another order -/
theorem rows_by (hr : es.toList = rowsN w L) {order : Array Nat} (hp : order.toList.Perm (List.range L.length)) :
    ∃ L2 : List Mem, (order.filterMap (es[·]?)).toList = rowsN w L2 ∧ L2.Perm L ∧ L2.map (hK w) = order.toList.map fun i => (es.map (·.1)).getD i 0 := by
  refine ⟨order.toList.filterMap fun i => L[i]?, ?_, ?_, ?_⟩
  · unfold rowsN
    rw [Array.toList_filterMap, List.map_filterMap]
    exact congrArg (fun g => List.filterMap g order.toList) (funext fun i => row_at hr i)
  · have h := hp.filterMap fun i => L[i]?
    rw [pick_all] at h
    exact h
  · have key : ∀ l : List Nat, (∀ i ∈ l, i < L.length) → (l.filterMap fun i => L[i]?).map (hK w) = l.map fun i => (es.map (·.1)).getD i 0 := by
      intro l
      induction l with
      | nil => intro _; rfl
      | cons i l ih =>
        intro hl
        have hi := hl i List.mem_cons_self
        have e : (es.map (·.1)).getD i 0 = hK w L[i] := by
          rw [Array.getD_eq_getD_getElem?, Array.getElem?_map, row_at hr, List.getElem?_eq_getElem hi]
          rfl
        rw [List.filterMap_cons_some (List.getElem?_eq_getElem hi), List.map_cons, List.map_cons, ih fun j hj => hl j (List.mem_cons_of_mem _ hj), e]
    exact key _ fun i hi => List.mem_range.mp (hp.mem_iff.mp hi)
theorem four_met {m : Nat} (h : m = 7 ∨ m = 31 ∨ m = 127 ∨ m = 511) : Met m := by
  rcases h with e | e | e | e
  · exact .small (.inl e)
  · exact .small (.inr (.inl e))
  · exact .small (.inr (.inr e))
  · rw [e]; exact .large
/-- the table laid anew, larger -/
theorem relayN {o : Obj} (ho : s.heap.get? a = some o) (hex : o.ExactSet) (hd : o.data = .set es ep t) (hr : es.toList = rowsN w L) (hz : t.place.size = L.length) (hm : t.dummies = #[]) (hl : L.length ≤ t.mask) (nd : (L.map (·.2)).Nodup) (key : ∀ p ∈ L, IsK P w s.heap p.2 p.1) (pl : t.plain = true)
    (ld : w.params.followText "set-order" = true ∨ t.led = true) (few : L.length ≤ 120) {wanted M : Nat} (hw : SetTable.sizeAbove wanted = M + 1) (h4 : M = 7 ∨ M = 31 ∨ M = 127 ∨ M = 511) (hn : L.length * 5 < M * 3) {Q : Unit → Shared → Prop}
    (q : ∀ h' L' es' ep' t', Heap.SameBut a s.heap h' → SetN P w h' a L' es' ep' t' → L'.Perm L → Q () { s with heap := h' }) : wpAny (model P w) A (setRelay a wanted) Q E s := by
  have hs := rows_size hr
  obtain ⟨t', order, e, hp, T, em, el, epl⟩ := relaidN t (hs := es.map (·.1)) (wanted := wanted) (M := M) (by rw [hw]; rfl) (four_met h4) (by rw [Array.size_map, hs]; omega)
  rw [Array.size_map, hs] at hp
  obtain ⟨L2, r1, r2, r3⟩ := rows_by hr hp
  rw [← r3] at T
  have z2 : (order.filterMap (es[·]?)).size = L.length := (rows_size r1).trans r2.length_eq
  rw [setRelay_eq]
  refine wpAny_bind (wpAny_setState_of ho hd (fits_of (hz.trans hs.symm) hm (by omega)) ?_)
  dsimp only
  refine wp_if_neg (by rw [hw, sizeLine_eq]; omega) ?_
  try refine wpAny_bind (wpAny_pure ?_)
  rw [e]
  refine wpAny_bind (wp_if_neg (by rw [z2, hs]; simp) ?_)
  try refine wpAny_bind (wpAny_pure ?_)
  refine wpAny_pure (wpAny_storeSet_of ho hd ?_ (by rw [z2, sizeLine_eq]; omega))
  have sb : Heap.SameBut a s.heap (s.heap.update a (Obj.putSet (order.filterMap (es[·]?)) t')) := Heap.SameBut.update ..
  exact q _ L2 _ (ep + 1) t' sb ⟨⟨_, store_at ho hd, hex, rfl⟩, r1, T, (r2.map (·.2)).nodup_iff.mpr nd, fun p h => (key p (r2.mem_iff.mp h)).but ho hd sb, by rw [epl]; exact pl, by rw [el]; exact ld, by rw [r2.length_eq, em]; exact hn, by rw [r2.length_eq]; exact few, by rw [em]; exact h4⟩ r2
theorem perm_in {α : Type} (L : List α) (p : Nat) (x : α) : (L.take p ++ x :: L.drop p).Perm (x :: L) :=
  (List.perm_middle (l₁ := L.take p) (a := x) (l₂ := L.drop p)).trans (by rw [List.take_append_drop])
/-- one is added -/
theorem addN (R : SetN P w s.heap a L es ep t) {x : Addr} {k : NestedKey} (hx : IsK P w s.heap k x) (hu : A.units + 8 < cLine) (hf : L.length + 1 ≤ 120) {Q : Bool → Shared → Prop}
    (q : ∀ b h' L' es' ep' t', Heap.SameBut a s.heap h' → SetN P w h' a L' es' ep' t' → (k ∈ L.map (·.2) → L' = L) → (k ∉ L.map (·.2) → L'.Perm ((x, k) :: L)) → Q b { s with heap := h' }) : wpAny (model P w) A (setAddHashed a (.ref x) (k.hash w)) Q E s := by
  obtain ⟨o, ho, hex, hd⟩ := R.ob
  have hs := R.size
  have room := R.room
  unfold setAddHashed
  rw [show (100000 : Nat) = 99999 + 1 from rfl, setAddHashedIn_succ]
  refine wpAny_holding (wpAny_bind (wpAny_setState_of ho hd R.fits ?_))
  dsimp only
  refine wp_if_neg (by simp [byScan, Value.scannable]) ?_
  try refine wpAny_bind (wpAny_pure ?_)
  refine wpAny_bind (seek0 R hx hu (fun hm => ?_) fun K hm F => ?_)
  · exact wpAny_pure (q false s.heap L es ep t (Heap.SameBut.refl a s.heap) R (fun _ => rfl) fun z => absurd hm z)
  · refine wpAny_bind (wpAny_setState_of ho hd R.fits ?_)
    dsimp only
    obtain ⟨p, hp⟩ : ∃ p, p = SetTable.below t.place (way t.mask (k.hash w) K) := ⟨_, rfl⟩
    obtain ⟨q1, q2, q3⟩ := R.tab.put F hp
    have p2 : (t.put (way t.mask (k.hash w) K)).2 = p := hp.symm
    have m1 : (t.put (way t.mask (k.hash w) K)).1.mask = t.mask := rfl
    have l1 : (t.put (way t.mask (k.hash w) K)).1.led = t.led := rfl
    have pl1 : (t.put (way t.mask (k.hash w) K)).1.plain = true := R.plain
    generalize t.put (way t.mask (k.hash w) K) = pt at q2 q3 p2 m1 l1 pl1 ⊢
    obtain ⟨t1, p'⟩ := pt
    dsimp only at q2 q3 p2 m1 l1 pl1 ⊢
    subst p2
    have hashed := by_key (P := P) (w := w) _ _ 8 s hx.1.1 hx.1.2 hx.2
    first
      | (refine wpAny_bind ?_; refine wp_if_pos pl1 ?_; refine hashed _ _ _ ?_)
      | refine wp_if_pos pl1 (wpAny_bind (hashed _ _ _ ?_))
    simp only [if_true]
    have pm := perm_in L p' ((x, k) : Mem)
    have in1 : (SetTable.insertAt es p' (k.hash w, Value.ref x)).toList = rowsN w (L.take p' ++ (x, k) :: L.drop p') := by
      rw [SetTable.toList_insertAt, R.rows]
      unfold rowsN
      rw [List.map_append, List.map_cons, List.map_take, List.map_drop]
    have in2 : (L.map (hK w)).take p' ++ k.hash w :: (L.map (hK w)).drop p' = (L.take p' ++ (x, k) :: L.drop p').map (hK w) := by
      rw [List.map_append, List.map_cons, List.map_take, List.map_drop]
    rw [in2] at q2
    generalize SetTable.insertAt es p' (k.hash w, Value.ref x) = es1 at in1 ⊢
    generalize L.take p' ++ (x, k) :: L.drop p' = L1 at pm q2 in1
    have len1 : L1.length = L.length + 1 := pm.length_eq
    have s1 := rows_size in1
    have nd1 : (L1.map (·.2)).Nodup := (pm.map (·.2)).nodup_iff.mpr (List.nodup_cons.mpr ⟨hm, R.nd⟩)
    refine wpAny_bind (wpAny_storeSet_of ho hd ?_ (by rw [s1, sizeLine_eq]; omega))
    have sb : Heap.SameBut a s.heap (s.heap.update a (Obj.putSet es1 t1)) := Heap.SameBut.update ..
    have ho1 := store_at (es' := es1) (t' := t1) ho hd
    generalize s.heap.update a (Obj.putSet es1 t1) = h1 at sb ho1 ⊢
    have key1 : ∀ p ∈ L1, IsK P w h1 p.2 p.1 := fun p hp => by
      rcases List.mem_cons.mp (pm.mem_iff.mp hp) with e | hp
      · subst e; exact hx.but ho hd sb
      · exact (R.key p hp).but ho hd sb
    have led1 : w.params.followText "set-order" = true ∨ t1.led = true := by rw [l1]; exact R.led
    rw [List.length_map] at q3
    by_cases hfull : t1.tooFull = true
    · first
        | (refine wpAny_bind ?_; refine wp_if_pos (by simp [hfull]) ?_)
        | (refine wp_if_pos (by simp [hfull]) ?_; refine wpAny_bind ?_)
      have full : (L.length + 1) * 5 ≥ t1.mask * 3 := by
        have h := hfull
        unfold SetTable.tooFull at h
        rw [decide_eq_true_eq, q3] at h
        exact h
      have z1 : t1.place.size = L1.length := by
        have := q2.sz
        rw [List.length_map] at this
        exact this
      rw [hs]
      have go : ∀ M, (M = 7 ∨ M = 31 ∨ M = 127 ∨ M = 511) → SetTable.sizeAbove (SetTable.grown (L.length + 1)) = M + 1 → (L.length + 1) * 5 < M * 3 → L.length + 1 ≤ t1.mask →
          wpAny (model P w) A (setRelay a (SetTable.grown (L.length + 1))) (fun _ s' => wpAny (model P w) A (pure true) Q E s') E { s with heap := h1 } := fun M g1 g2 g3 g4 =>
        relayN (s := { s with heap := h1 }) ho1 hex rfl in1 z1 q2.dm (by rw [len1]; exact g4) nd1 key1 pl1 led1 (by rw [len1]; exact hf) g2 g1 (by rw [len1]; exact g3) fun h2 L2 es2 ep2 t2 sb2 R2 pm2 =>
          wpAny_pure (q true h2 L2 es2 ep2 t2 (sb.trans sb2) R2 (fun z => absurd z hm) fun _ => pm2.trans pm)
      rw [m1] at full go
      rcases R.four with e | e | e | e
      · rw [e] at full room go
        have l4 : L.length = 4 := by omega
        rw [l4] at go ⊢
        exact go 31 (.inr (.inl rfl)) size_20 (by decide) (by decide)
      · rw [e] at full room go
        have l4 : L.length = 18 := by omega
        rw [l4] at go ⊢
        exact go 127 (.inr (.inr (.inl rfl))) size_76 (by decide) (by decide)
      · rw [e] at full room go
        have l4 : L.length = 76 := by omega
        rw [l4] at go ⊢
        exact go 511 (.inr (.inr (.inr rfl))) size_308 (by decide) (by decide)
      · rw [e] at full
        omega
    · first
        | refine wp_if_neg (by simp [hfull]) ?_
        | (refine wpAny_bind ?_; refine wp_if_neg (by simp [hfull]) ?_; refine wpAny_pure ?_)
      refine wpAny_pure (q true h1 L1 es1 (ep + 1) t1 sb ⟨⟨_, ho1, hex, rfl⟩, in1, q2, nd1, key1, pl1, led1, ?_, by rw [len1]; exact hf, by rw [m1]; exact R.four⟩ (fun z => absurd z hm) fun _ => pm)
      have h := hfull
      unfold SetTable.tooFull at h
      rw [decide_eq_true_eq, q3] at h
      rw [len1]
      omega
end
end CD
set_option Elab.async false
set_option linter.all false
set_option maxRecDepth 100000
set_option maxHeartbeats 3200000
/-! set(xs) -/
namespace CD
open PySem PySem.Spec L2
open PyProof.Rows hiding St
structure GotN (ks : List Mem) (i : Nat) (L : List Mem) : Prop where
  sub : ∀ p ∈ L, p ∈ ks.take i
  all : ∀ p ∈ ks.take i, p.2 ∈ L.map (·.2)
  len : L.length ≤ i
theorem GotN.next {ks L L' : List Mem} {i : Nat} {x : Mem} (g : GotN ks i L) (h : ks[i]? = some x) (c1 : x.2 ∈ L.map (·.2) → L' = L) (c2 : x.2 ∉ L.map (·.2) → L'.Perm (x :: L)) : GotN ks (i + 1) L' := by
  have tk : ks.take (i + 1) = ks.take i ++ [x] := by rw [List.take_add_one, h]; rfl
  by_cases c : x.2 ∈ L.map (·.2)
  · rw [c1 c]
    refine ⟨fun p hp => ?_, fun p hp => ?_, Nat.le_succ_of_le g.len⟩
    · rw [tk]; exact List.mem_append_left _ (g.sub p hp)
    · rw [tk] at hp
      rcases List.mem_append.mp hp with z | z
      · exact g.all p z
      · rw [List.mem_singleton.mp z]; exact c
  · have pm := c2 c
    refine ⟨fun p hp => ?_, fun p hp => (pm.map (·.2)).mem_iff.mpr ?_, by rw [pm.length_eq]; exact Nat.succ_le_succ g.len⟩
    · rw [tk]
      rcases List.mem_cons.mp (pm.mem_iff.mp hp) with e | z
      · exact List.mem_append_right _ (List.mem_singleton.mpr e)
      · exact List.mem_append_left _ (g.sub p z)
    · rw [tk] at hp
      rcases List.mem_append.mp hp with z | z
      · exact List.mem_cons_of_mem _ (g.all p z)
      · rw [List.mem_singleton.mp z]; exact List.mem_cons_self
section
variable {P : Program} {w : World} {A : Around} {E : Value → Shared → Prop} {s : Shared}
theorem SetN.keep {h h' : Heap} {a : Addr} {L : List Mem} {es : Array (Int × Value)} {ep : Nat} {t : SetTable} (R : SetN P w h a L es ep t) (ha : ∀ o, h.get? a = some o → h'.get? a = some o) (hk : ∀ p ∈ L, IsK P w h' p.2 p.1) : SetN P w h' a L es ep t :=
  let ⟨o, ho, r⟩ := R.ob
  ⟨⟨o, ha o ho, r⟩, R.rows, R.tab, R.nd, hk, R.plain, R.led, R.room, R.few, R.four⟩
abbrev set0 (w : World) : Obj := { cls := .type "set", dict := none, data := .set #[] 0 (.fresh 0 0 (!w.params.followText "set-order")) }
theorem led0 : w.params.followText "set-order" = true ∨ (SetTable.fresh 0 0 (!w.params.followText "set-order")).led = true := by
  show _ ∨ (!w.params.followText "set-order") = true
  cases w.params.followText "set-order"
  · exact .inr rfl
  · exact .inl rfl
theorem setN_new {h : Heap} {a : Addr} (ho : h.get? a = some (set0 w)) : SetN P w h a [] #[] 0 (.fresh 0 0 (!w.params.followText "set-order")) :=
  ⟨⟨_, ho, ⟨rfl, rfl, rfl⟩, rfl⟩, rfl, ⟨List.Pairwise.nil, rfl, rfl, .small (.inl rfl), (fun x hx => by cases hx), (fun i h j hi => by simp at hi)⟩, List.nodup_nil, (fun p hp => by cases hp), rfl, led0, (by show 0 * 5 < 7 * 3; decide), Nat.zero_le _, .inl rfl⟩
/-- the loop of set.update -/
theorem loopN {I : Addr} {fp wr : List Addr} {G : Array GenState → Array GenState → Prop} {n : Nat} {Pv : Nat → Value → Prop} {St : Nat → Shared → Prop} {R : Result → Shared → Prop} (W : WalksS P w A.in1 I fp wr G n Pv St) {S : Addr} (hSf : S ∉ fp) {ks : List Mem} (hn : n = ks.length) (few : ks.length ≤ 120)
    (hval : ∀ i v, Pv i v → ∃ p, ks[i]? = some p ∧ v = .ref p.1) {h0 : Heap} (hk : ∀ p ∈ ks, IsK P w h0 p.2 p.1) (hS0 : h0.get? S = none) (hw0 : ∀ b ∈ wr, h0.get? b = none) (hu : A.in1.units + 8 < cLine) :
    ∀ (k i : Nat) (s : Shared), n - i = k → i ≤ n → St i s → (∀ b o, h0.get? b = some o → s.heap.get? b = some o) → (∃ L es ep t, SetN P w s.heap S L es ep t ∧ GotN ks i L) →
      (∀ s' L es ep t, Moved (S :: wr) G s s' → SetN P w s'.heap S L es ep t → GotN ks n L → (∀ b o, h0.get? b = some o → s'.heap.get? b = some o) → R (.ok (.ret .none)) s') → codeAny (model P w) A (.builtin "set.update.loop" ⟨[.ref S, .ref I], []⟩) R s := by
  have out : S ∉ wr := fun h => hSf (W.sub _ h)
  have inc : ∀ b ∈ wr, b ∈ S :: wr := fun b hb => List.mem_cons_of_mem _ hb
  have still : ∀ {s s' : Shared}, Moved wr G s s' → (∀ b o, h0.get? b = some o → s.heap.get? b = some o) → ∀ b o, h0.get? b = some o → s'.heap.get? b = some o := fun hm kp b o e => hm.heap b o (fun hb => by rw [hw0 b hb] at e; cases e) (kp b o e)
  intro k
  induction k with
  | zero =>
    intro i s e1 e2 st kp ⟨L, es, ep, t, hS, g⟩ done
    obtain rfl : i = n := by omega
    refine codeAny_builtin F.entry_set_update_loop ?_
    rw [Around.under_plainId F.plain_set_update_loop _]
    refine (?_ : wpAny _ A.in1 (pyNext (.ref I) >>= _) _ _ s)
    refine wpAny_bind (W.done s _ _ st fun s' hm => ?_)
    refine (wpAny_pure ?_ : wpAny _ A.in1 (ret Value.none) _ _ s')
    have kp' := still hm kp
    exact done s' L es ep t (hm.mono inc) (hS.keep (fun o e => hm.heap S o out e) fun p hp => (hk p (List.mem_of_mem_take (g.sub p hp))).keep kp') g kp'
  | succ k ih =>
    intro i s e1 e2 st kp ⟨L, es, ep, t, hS, g⟩ done
    refine codeAny_builtin F.entry_set_update_loop ?_
    rw [Around.under_plainId F.plain_set_update_loop _]
    refine (?_ : wpAny _ A.in1 (pyNext (.ref I) >>= _) _ _ s)
    refine wpAny_bind (W.item i s _ _ (by omega) st fun v s' hP st' hm => ?_)
    obtain ⟨p, hp, rfl⟩ := hval i v hP
    have kp' := still hm kp
    have hS' : SetN P w s'.heap S L es ep t := hS.keep (fun o e => hm.heap S o out e) fun q hq => (hk q (List.mem_of_mem_take (g.sub q hq))).keep kp'
    have hx : IsK P w s'.heap p.2 p.1 := (hk p (List.mem_of_getElem? hp)).keep kp'
    refine (?_ : wpAny _ A.in1 (holding [Value.ref p.1] (setAdd S (.ref p.1)) >>= _) _ _ s')
    refine wpAny_bind (wpAny_holding ?_)
    unfold setAdd
    refine wpAny_holding (wpAny_bind ((nestedKind P w).pyHash hu hx.1 ?_))
    refine addN (s := { s' with toks := s'.toks + (nestedKind P w).draws p.2 }) hS' hx hu (by have := g.len; omega) fun b h' L' es' ep' t' sb hS2 c1 c2 => ?_
    have kp2 : ∀ b o, h0.get? b = some o → h'.get? b = some o := fun b o e => (sb.2 b fun z => by rw [z, hS0] at e; cases e).trans (kp' b o e)
    refine wpAny_pure ⟨plainId_quiet F.plain_set_update_loop _, ih (i + 1) _ (by omega) (by omega) (W.frame _ s' _ _ st' (Nat.le_add_right _ _) fun b hb o e => (sb.2 b fun z => hSf (z ▸ hb)).trans e) kp2 ⟨L', es', ep', t', hS2, g.next hp c1 c2⟩ fun s2 L2 es2 ep2 t2 hm2 hS3 g2 kp3 =>
      done s2 L2 es2 ep2 t2 (Moved.trans W.gtrans ((hm.mono inc).then_heap (Nat.le_add_right _ _) fun b o hb e => (sb.2 b fun z => hb (z ▸ List.mem_cons_self)).trans e) hm2) hS3 g2 kp3⟩
theorem fresh_none {h : Heap} {b : Addr} (hb : h.objs.size ≤ b) : h.get? b = none := by
  cases q : h.get? b with
  | none => rfl
  | some o => exact absurd (Heap.lt_size q) (Nat.not_lt.mpr hb)
set_option maxRecDepth 100000 in
theorem call_setN {l : Addr} {items : Array Value} (ks : List Mem) {Q : Value → Shared → Prop} (hh : A.handled = none) (hl : s.heap.IsList l items) (hit : items.toList = ks.map fun p => Value.ref p.1) (hk : ∀ p ∈ ks, IsK P w s.heap p.2 p.1) (few : ks.length ≤ 120) (hu : A.units + 16 < cLine)
    (q : ∀ (h' : Heap) (tk : Nat) L es ep t, SetN P w h' s.heap.objs.size L es ep t → GotN ks ks.length L → (∀ b o, s.heap.get? b = some o → h'.get? b = some o) → Q (.ref s.heap.objs.size) { s with heap := h', toks := tk }) : wpAny (model P w) A (call (.type "set") [.ref l]) Q E s := by
  have hisz : items.size = ks.length := by
    have z := congrArg List.length hit
    rw [List.length_map] at z
    exact z
  obtain ⟨c, tl, hmro⟩ := F.called_set.mro
  have hmade := F.called_set.made
  have hsub := F.called_set.sub
  refine wpAny_call (codeAny_of_tree (?_ : wpAny _ _ (callAny (.type "set") _) _ _ _))
  refine wpAny_pure ⟨Code.quiet_builtin _ (by decide +kernel), codeAny_builtin F.entry_type_call ?_⟩
  rw [Around.under_plain (weight_type_call_type "set" [.ref l] []) rfl]
  have h1 := F.called_set.notType
  have h2 := F.called_set.canCreate
  have hct := F.typeCall_set_1 (.ref l)
  repeat (any_goals (first | assumption | wp_step))
  refine codeAny_mono (code_set_led1 (.ref l) (E := E) (Q₁ := fun obj s1 => obj = .ref s.heap.objs.size ∧ s1 = { s with heap := s.heap.push (set0 w) }) ⟨rfl, rfl⟩) fun r s1 hr => ?_
  cases r with
  | error e => exact hr
  | ok fl =>
    cases fl with
    | ret obj =>
      obtain ⟨rfl, rfl⟩ := hr
      have hS : (s.heap.push (set0 w)).get? s.heap.objs.size = some (set0 w) := Heap.get?_push_size _ rfl
      have hT : Shared.TypeIs { s with heap := s.heap.push (set0 w) } (.ref s.heap.objs.size) "set" := ⟨_, hS, rfl⟩
      have hli := F.called_set.init.lookup
      have hbi := F.called_set.init.bind (.ref s.heap.objs.size)
      repeat (any_goals (first | assumption | wp_step))
      refine codeAny_mono (codeAny_call_builtin (R := wants (fun r s2 => r = .none ∧ ∃ h' tk L es ep t, s2 = { s with heap := h', toks := tk } ∧ SetN P w h' s.heap.objs.size L es ep t ∧ GotN ks ks.length L ∧ (∀ b o, s.heap.get? b = some o → h'.get? b = some o)) E) F.called_set.init.plain F.entry_set_init (check_set_init_1 hT ?_)) fun r2 s2 hr2 => ?_
      · obtain ⟨ol, hol, hcl, nl, hdl⟩ := hl
        obtain ⟨ocls, odict, odata, oslots⟩ := ol
        simp only at hcl hdl
        subst hcl
        subst hdl
        have hol' : (s.heap.push (set0 w)).get? l = some { cls := .type "list", dict := odict, data := .seq items nl, slots := oslots } := Heap.get?_push_of_some _ hol
        have hsls := F.sub_list_set
        have hslf := F.sub_list_frozenset
        have hne : (Value.type "list" == Value.type "dict") = false := by decide
        have hl1 : (s.heap.push (set0 w)).IsList l items := ⟨_, hol', rfl, nl, rfl⟩
        unfold Builtin.«set.__init__» noKeywords Builtin.Frozenset.updateFrom
        generalize hPI : pyIter = PI
        wp_walk
        subst hPI
        refine wpAny_pyIter_list hl1 (wpAny_bind (wpAny_runValue ?_))
        have lt : l < s.heap.objs.size := Heap.lt_size hol
        have sz : (s.heap.push (set0 w)).objs.size = s.heap.objs.size + 1 := Heap.size_push ..
        have hh3 : A.in1.in1.in1.handled = none := by simp [hh]
        have neI : l ≠ (s.heap.push (set0 w)).objs.size := by rw [sz]; exact Nat.ne_of_lt (Nat.lt_succ_of_lt lt)
        have notIn : s.heap.objs.size ∉ [(s.heap.push (set0 w)).objs.size, l] := by
          rw [sz]
          simp only [List.mem_cons, List.mem_singleton, List.not_mem_nil, or_false, not_or]
          exact ⟨Nat.ne_of_lt (Nat.lt_succ_self _), Nat.ne_of_gt lt⟩
        have hval : ∀ (i : Nat) (v : Value), items[i]? = some v → ∃ p, ks[i]? = some p ∧ v = .ref p.1 := fun i v hv => by
          have z : items.toList[i]? = some v := by rw [Array.getElem?_toList]; exact hv
          rw [hit, List.getElem?_map] at z
          obtain ⟨p, hp, e⟩ := Option.map_eq_some_iff.mp z
          exact ⟨p, hp, e.symm⟩
        refine loopN ((Walks.list hh3 _ l neI items).toS) notIn hisz few hval (h0 := s.heap) hk (fresh_none (Nat.le_refl _)) (fun b hb => fresh_none (by rw [List.mem_singleton.mp hb, sz]; exact Nat.le_succ _)) (by simp only [Around.in1_units]; omega) (items.size - 0) 0 _ (by omega) (Nat.zero_le _)
          ⟨⟨_, Heap.get?_push_size _ rfl, rfl, rfl⟩, (hl1.push _)⟩ (fun b o e => Heap.get?_push_of_some _ (Heap.get?_push_of_some _ e)) ⟨[], #[], 0, _, setN_new (Heap.get?_push_of_some _ hS), ⟨(fun p h => by cases h), (fun p h => by simp at h), Nat.le_refl _⟩⟩ fun s' L es ep t hm hS' g' kp => ?_
        obtain ⟨h', g2, d', tk', os'⟩ := s'
        obtain rfl : g2 = s.gens := hm.gens
        obtain rfl : d' = s.drawn := hm.drawn
        obtain rfl : os' = s.os := hm.os
        refine (wpAny_pure ?_ : wpAny _ _ _ _ _ _)
        rw [hisz] at g'
        refine (?_ : wpAny _ _ (ret Value.none) _ _ _)
        exact wpAny_pure ⟨rfl, h', tk', L, es, ep, t, rfl, hS', g', kp⟩
      · cases r2 with
        | error e => exact hr2
        | ok fl2 =>
          cases fl2 with
          | ret r =>
            obtain ⟨rfl, h', tk, L, es, ep, t, rfl, hS', g', kp⟩ := hr2
            repeat (any_goals (first | assumption | wp_step))
            exact q _ _ _ _ _ _ hS' g' kp
          | _ => exact hr2.elim
    | _ => exact hr.elim
end
end CD
set_option Elab.async false
set_option linter.all false
set_option maxRecDepth 100000
set_option maxHeartbeats 2000000
/-! nested keys in the tracked heap: sets, sorted sets, dicts -/
namespace CD
open PySem PySem.Spec L2
open PyProof.Rows hiding St
section
variable {P : Program} {w : World} {H : Hp} {h : Heap}
mutual
theorem rep_is (ok : HOk P w H h) : ∀ (k : NestedKey) (v : V) (u : Value), Rep H v k.data → RelV v u → numK k = true → NestedIs h k u
  | .none, _, _, r, q, _ => by
    simp only [NestedKey.data] at r
    cases r
    cases q
    exact .none
  | .num i, _, _, r, q, _ => by
    simp only [NestedKey.data] at r
    cases r
    obtain ⟨t, rfl⟩ := q
    exact .int i t
  | .text y, _, _, _, _, z => by cases z
  | .tup ks, _, _, r, q, z => by
    simp only [NestedKey.data] at r
    cases r with
    | tup h1 h0 h2 =>
      cases q
      obtain ⟨_, _, its, rv, o', e1, e2, n, e3⟩ := ok _ _ h1
      exact .tup e1 e2 e3 (by simpa using reps_are ok ks _ _ h2 rv z)
theorem reps_are (ok : HOk P w H h) : ∀ (ks : List NestedKey) (vs : List V) (us : List Value), RepAll H vs (NestedKey.datas ks) → Vals vs us → numKs ks = true → NestedAll h ks us
  | [], _, _, r, q, _ => by
    simp only [NestedKey.datas] at r
    cases r
    cases q
    exact .nil
  | k :: ks, _, _, r, q, z => by
    simp only [NestedKey.datas] at r
    have z' : (numK k && numKs ks) = true := z
    rw [Bool.and_eq_true] at z'
    cases r with
    | cons r1 r2 =>
      cases q with
      | cons q1 q2 => exact .cons (rep_is ok k _ _ r1 q1 z'.1) (reps_are ok ks _ _ r2 q2 z'.2)
end
mutual
theorem rep_reads (ok : HOk P w H h) {h' : Heap} (kp : ∀ b o, h.get? b = some o → h'.get? b = some o) : ∀ (k : NestedKey) (v : V) (u : Value), Rep H v k.data → RelV v u → numK k = true → Reads h' u k.data []
  | .none, _, _, r, q, _ => by
    simp only [NestedKey.data] at r ⊢
    cases r
    cases q
    exact .none
  | .num i, _, _, r, q, _ => by
    simp only [NestedKey.data] at r ⊢
    cases r
    obtain ⟨t, rfl⟩ := q
    exact .int i t
  | .text y, _, _, _, _, z => by cases z
  | .tup ks, _, _, r, q, z => by
    simp only [NestedKey.data] at r ⊢
    cases r with
    | tup h1 h0 h2 =>
      cases q
      obtain ⟨_, _, its, rv, o', e1, e2, n, e3⟩ := ok _ _ h1
      exact .tuple (kp _ _ e1) e2 e3 (by simpa using reps_read ok kp ks _ _ h2 rv z)
theorem reps_read (ok : HOk P w H h) {h' : Heap} (kp : ∀ b o, h.get? b = some o → h'.get? b = some o) : ∀ (ks : List NestedKey) (vs : List V) (us : List Value), RepAll H vs (NestedKey.datas ks) → Vals vs us → numKs ks = true → ReadsAll h' us (NestedKey.datas ks) []
  | [], _, _, r, q, _ => by
    simp only [NestedKey.datas] at r ⊢
    cases r
    cases q
    exact .nil
  | k :: ks, _, _, r, q, z => by
    simp only [NestedKey.datas] at r ⊢
    have z' : (numK k && numKs ks) = true := z
    rw [Bool.and_eq_true] at z'
    cases r with
    | cons r1 r2 =>
      cases q with
      | cons q1 q2 => exact .cons (rep_reads ok kp k _ _ r1 q1 z'.1) (reps_read ok kp ks _ _ r2 q2 z'.2)
end
/-- at p.1 stands the key p.2 -/
structure KeyAt (H : Hp) (p : Mem) : Prop where
  rep : Rep H (.ref p.1) p.2.data
  num : numK p.2 = true
  dep : p.2.depth ≤ 8
theorem KeyAt.is {p : Mem} (ok : HOk P w H h) (k : KeyAt H p) : IsK P w h p.2 p.1 := ⟨⟨rep_is ok _ _ _ k.rep rfl k.num, k.dep⟩, k.num⟩
theorem KeyAt.up {H' : Hp} {p : Mem} (k : KeyAt H p) (s : Same H H') : KeyAt H' p := ⟨k.rep.up s, k.num, k.dep⟩
end
theorem perm_back {α β : Type} {f : α → β} {m m' : List β} (h : m.Perm m') : ∀ l : List α, m' = l.map f → ∃ l' : List α, l'.Perm l ∧ m = l'.map f := by
  induction h with
  | nil =>
    intro l e
    exact ⟨l, .refl _, e⟩
  | cons x _ ih =>
    intro l e
    cases l with
    | nil => cases e
    | cons y t =>
      rw [List.map_cons] at e
      injection e with e1 e2
      obtain ⟨l', p, e'⟩ := ih t e2
      exact ⟨y :: l', p.cons y, by rw [List.map_cons, e1, e']⟩
  | swap x y l0 =>
    intro l e
    match l, e with
    | [], e => cases e
    | [_], e => cases e
    | a :: b :: t, e =>
      rw [List.map_cons, List.map_cons] at e
      injection e with e1 e2
      injection e2 with e2 e3
      exact ⟨b :: a :: t, .swap _ _ _, by rw [List.map_cons, List.map_cons, e1, e2, e3]⟩
  | trans _ _ ih1 ih2 =>
    intro l e
    obtain ⟨l2, p2, e2⟩ := ih2 l e
    obtain ⟨l1, p1, e1⟩ := ih1 l2 e2
    exact ⟨l1, p1.trans p2, e1⟩
/-! ### sets -/
def Set0 (w : World) (h : Heap) (a : Addr) (L : List Mem) : Prop := ∃ (es : Array (Int × Value)) (ep : Nat) (t : SetTable), (∃ o, h.get? a = some o ∧ o.ExactSet ∧ o.data = .set es ep t) ∧ es.toList = rowsN w L ∧ TabN t (L.map (hK w)) ∧ (L.map (·.2)).Nodup ∧ t.plain = true ∧
  (w.params.followText "set-order" = true ∨ t.led = true) ∧ L.length * 5 < t.mask * 3 ∧ L.length ≤ 120 ∧ (t.mask = 7 ∨ t.mask = 31 ∨ t.mask = 127 ∨ t.mask = 511)
def SetO (w : World) (a : Addr) (L : List Mem) : HO := .ext fun h => Set0 w h a L
theorem setO_ok {P : Program} {w : World} {H : Hp} {h : Heap} {a : Addr} {L : List Mem} (R : Set0 w h a L) : ObjOk P w H h a (SetO w a L) := by
  have ⟨_, _, _, ⟨o, ho, _⟩, _⟩ := R
  refine ⟨R, ⟨o, ho⟩, fun h1 h2 p k => ?_⟩
  have ⟨es, ep, t, ⟨o', ho', r⟩, q⟩ := (show Set0 w h1 a L from p)
  exact ⟨es, ep, t, ⟨o', k o' ho', r⟩, q⟩
theorem refs_back : ∀ {ks : List Mem} {us : List Value}, Vals (ks.map fun p => V.ref p.1) us → us = ks.map fun p => Value.ref p.1
  | [], _, .nil => rfl
  | p :: ks, _, .cons r t => by
    cases r
    rw [List.map_cons, ← refs_back t]
theorem refs_vals : ∀ ks : List Mem, Vals (ks.map fun p => V.ref p.1) (ks.map fun p => Value.ref p.1)
  | [] => .nil
  | p :: ks => .cons rfl (refs_vals ks)
theorem each_of {β : Type} {R : Value → β → Prop} {f : β → Value} : ∀ bs : List β, (∀ b ∈ bs, R (f b) b) → PySem.W.EachIs R (bs.map f) bs
  | [], _ => .nil
  | b :: bs, h => .cons (h b List.mem_cons_self) (each_of bs fun c hc => h c (List.mem_cons_of_mem _ hc))
theorem each_eq {β : Type} {f : β → Value} {out : List Value} {bs : List β} (h : PySem.W.EachIs (fun v b => v = f b) out bs) : out = bs.map f := by
  induction h with
  | nil => rfl
  | cons e _ ih => rw [List.map_cons, e, ih]
section
variable {X : Cx}
def rSetN (K : PySem.W.Frag) (w : World) : List V → Hp → VK → Prop := fun xs H Q => ∃ (l : Addr) (ks : List Mem), xs = [V.ref l] ∧ SqL K H l (ks.map fun p => V.ref p.1) ∧ (∀ p ∈ ks, KeyAt H p) ∧ ks.length ≤ 120 ∧
  ∀ a L, H a = none → (∀ p ∈ L, p ∈ ks) → (∀ p ∈ ks, p.2 ∈ L.map (·.2)) → (L.map (·.2)).Nodup → L.length ≤ 120 → Q (.ref a) (upd H a (SetO w a L))
theorem cr_setN (hc : X.calm = true) (hu : X.A.units + 64 < cLine) : CallR X (.type "set") (rSetN X.K X.w) := by
  intro pins s σ H xs us Q I r h
  obtain ⟨l, ks, rfl, hl, hk, hf, q⟩ := h
  rw [Vals.ref1 r]
  obtain ⟨its, rv, pl, hz⟩ := I.list hl
  have hn : H s.heap.objs.size = none := I.hok.fresh (Nat.le_refl _)
  refine call_setN (P := X.prog) (w := X.w) ks (I.ok.hd hc) pl.isList (by simpa using refs_back rv) (fun p hp => (hk p hp).is I.hok) hf (by omega) fun h' tk L es ep t R g k => ?_
  refine ⟨.ref s.heap.objs.size, upd H s.heap.objs.size (SetO X.w s.heap.objs.size L), I.laid (t' := tk) k (Nat.le_refl _) (setO_ok ⟨es, ep, t, R.ob, R.rows, R.tab, R.nd, R.plain, R.led, R.room, R.few, R.four⟩), rfl, q _ L hn (fun p hp => List.mem_of_mem_take (g.sub p hp)) (fun p hp => ?_) R.nd R.few⟩
  exact g.all p (by rw [List.take_length]; exact hp)
def rSrtN (w : World) : List V → Hp → VK → Prop := fun vs H Q => ∃ (a : Addr) (L : List Mem), vs = [V.ref a] ∧ H a = some (SetO w a L) ∧ (∀ p ∈ L, KeyAt H p) ∧ (∀ p ∈ L, ∀ q ∈ L, PySem.W.alike p.2.data q.2.data = true) ∧ (∀ p ∈ L, ∃ x r, p.2.data = .tuple (x :: r)) ∧ (∀ p ∈ L, p.2.data.depth ≤ 8) ∧
  ∀ (L' : List Mem) (p : Addr), L'.Perm L → H p = none → Q (.ref p) (upd H p (.lst (L'.map fun q => V.ref q.1)))
theorem cr_srtN (hc : X.calm = true) (hu : X.A.units + 64 < cLine) : CallR X (.builtin "sorted") (rSrtN X.w) := by
  intro pins s σ H vs us Q I r h
  obtain ⟨a, L, rfl, ha, hk, hal, hso, hdp, q⟩ := h
  have ⟨es, ep, t, ⟨o, ho, hex, hd⟩, hr, T, nd, _, led, room, few, _⟩ := (show Set0 X.w s.heap a L from (I.hok a _ ha).1)
  have hsz := rows_size hr
  have tsz : t.place.size = L.length := by
    have := T.sz
    rw [List.length_map] at this
    exact this
  rw [Vals.ref1 r]
  refine sorted_col (β := Mem) (enc := fun p => p.2.data) (R := fun v p => v = Value.ref p.1)
    (fun s' vs => (∀ b o, s.heap.get? b = some o → s'.heap.get? b = some o) ∧ s.heap.objs.size ≤ s'.heap.objs.size ∧ s'.gens = s.gens ∧ s'.os = s.os ∧ vs.Perm (es.toList.map (·.2)))
    (fun Q' q' => collect_set (A := X.A.in1) (I.ok.hd hc) ⟨o, ho, hex.1, hd⟩ (fits_of (tsz.trans hsz.symm) T.dm (by omega)) (by unfold scanBound; omega) T.ris led fun s1 vs k1 hz g1 o1 pm => q' s1 vs ⟨k1, hz, g1, o1, pm⟩) ?_
  rintro s1 vs ⟨k1, hz, g1, o1, pm⟩
  have rows : es.toList.map (·.2) = L.map fun p => Value.ref p.1 := by
    rw [hr]
    unfold rowsN
    rw [List.map_map]
    rfl
  rw [rows] at pm
  obtain ⟨bs, pb, rfl⟩ := perm_back pm L rfl
  have inL : ∀ p ∈ bs, p ∈ L := fun p hp => pb.mem_iff.mp hp
  refine ⟨bs, each_of bs fun _ _ => rfl, each_of bs fun p hp => ⟨[], ?_, by simp⟩, fun d hd d' hd' => ?_, .inl fun d hd => ?_, by rw [pb.length_eq]; omega, fun b hb => ?_, fun out e1 e2 => ?_⟩
  · exact rep_reads I.hok (fun b u e => Heap.get?_push_of_some _ (k1 b u e)) _ _ _ (hk p (inL p hp)).rep rfl (hk p (inL p hp)).num
  · obtain ⟨p, hp, rfl⟩ := List.mem_map.mp hd
    obtain ⟨p', hp', rfl⟩ := List.mem_map.mp hd'
    exact hal p (inL p hp) p' (inL p' hp')
  · obtain ⟨p, hp, rfl⟩ := List.mem_map.mp hd
    exact hso p (inL p hp)
  · have := hdp b (inL b hb)
    omega
  · have eo := each_eq e2
    generalize hL' : bs.mergeSort (PySem.W.dataLe false fun p : Mem => p.2.data) = L' at eo
    have pL : L'.Perm L := by
      rw [← hL']
      exact (List.mergeSort_perm bs _).trans pb
    have hp : (s1.heap.push (seqObj "list" (bs.map fun p => Value.ref p.1).toArray 0)).get? s1.heap.objs.size = some (seqObj "list" (bs.map fun p => Value.ref p.1).toArray 0) := Heap.get?_push_size _ rfl
    obtain ⟨c, hg⟩ := sortedHeap_at (vs := bs.map fun p => Value.ref p.1) (out := out.toArray) hp
    have hn : H s1.heap.objs.size = none := I.hok.fresh hz
    have k2 : ∀ b u, s.heap.get? b = some u → (sortedHeap (s1.heap.push (seqObj "list" (bs.map fun p => Value.ref p.1).toArray 0)) s1.heap.objs.size (bs.map fun p => Value.ref p.1) out.toArray).get? b = some u := fun b u e => by
      have e1 := k1 b u e
      have lt := Heap.lt_size e1
      rw [sortedHeap_old (Nat.ne_of_lt lt) (by rw [size_push']; exact Nat.lt_succ_of_lt lt)]
      exact Heap.get?_push_of_some _ e1
    have hv : Vals (L'.map fun q => V.ref q.1) out := by rw [eo]; exact refs_vals L'
    have hl : (L'.map fun q => V.ref q.1).length ≤ sizeLine := by rw [List.length_map, pL.length_eq]; exact le1000 (by omega)
    have new : ObjOk X.prog X.w (upd H s1.heap.objs.size (.lst (L'.map fun q => V.ref q.1))) (sortedHeap (s1.heap.push (seqObj "list" (bs.map fun p => Value.ref p.1).toArray 0)) s1.heap.objs.size (bs.map fun p => Value.ref p.1) out.toArray) s1.heap.objs.size (.lst (L'.map fun q => V.ref q.1)) :=
      ⟨hl, out, c, hv, hg⟩
    generalize sortedHeap (s1.heap.push (seqObj "list" (bs.map fun p => Value.ref p.1).toArray 0)) s1.heap.objs.size (bs.map fun p => Value.ref p.1) out.toArray = h2 at k2 new ⊢
    have J : Inv X pins σ (upd H s1.heap.objs.size (.lst (L'.map fun q => V.ref q.1))) { s with heap := h2, gens := s1.gens, drawn := s1.drawn, toks := s1.toks } :=
      I.call (ch := []) (Un.laid k2 hz hn) (I.hok.laid k2 hz new) (by rw [g1]; exact I.bare) (fun _ z => nomatch z)
    obtain ⟨hp1, ge1, dr1, tk1, os1⟩ := s1
    obtain rfl : os1 = s.os := o1
    exact ⟨.ref _, _, J, rfl, q L' _ pL hn⟩
end
/-! ### dicts -/
abbrev Ent := NestedKey × Addr × Value
def Dic0 (P : Program) (w : World) (h : Heap) (d : Addr) (xs : List Ent) : Prop := (d == sysModules) = false ∧ ∃ o es ep, h.get? d = some o ∧ o.ExactDict ∧ o.data = .dict es ep ∧ es.toList = xs.map (entryOfKey (nestedKind P w)) ∧ (xs.map (·.1)).Nodup
def DicO (P : Program) (w : World) (d : Addr) (xs : List Ent) : HO := .ext fun h => Dic0 P w h d xs
/-- the keys stand -/
def KeysAt (H : Hp) (xs : List Ent) : Prop := ∀ x ∈ xs, KeyAt H (x.2.1, x.1)
section
variable {P : Program} {w : World} {H : Hp} {h : Heap} {d : Addr} {xs : List Ent}
theorem dicO_ok (R : Dic0 P w h d xs) : ObjOk P w H h d (DicO P w d xs) := by
  have ⟨hs, o, es, ep, ho, r⟩ := R
  refine ⟨R, ⟨o, ho⟩, fun h1 h2 p k => ?_⟩
  have ⟨hs', o', es', ep', ho', r'⟩ := (show Dic0 P w h1 d xs from p)
  exact ⟨hs', o', es', ep', k o' ho', r'⟩
theorem dic_of (ok : HOk P w H h) (e : Rd H d (DicO P w d xs)) (hk : KeysAt H xs) : (d == sysModules) = false ∧ h.DictOfH (nestedKind P w) d xs := by
  have ⟨hs, o, es, ep, ho, h1, h2, h3, h4⟩ : Dic0 P w h d xs := by
    rcases e with e | ⟨ob, e⟩
    · exact (ok d _ e).1
    · exact (ok d _ e).2.1
  exact ⟨hs, o, es, ep, ho, h1, h2, h3, fun x hx => ((hk x hx).is ok).1, h4⟩
end
def tDNewX (P : Program) (w : World) : TE := fun _ H Q => ∀ p, H p = none → Q (.ref p) (upd H p (DicO P w p []))
def rInX (P : Program) (w : World) : R2 := fun x y H Q => ∃ (a d : Addr) (k : NestedKey) (xs : List Ent), x = .ref a ∧ y = .ref d ∧ KeyAt H (a, k) ∧ H d = some (DicO P w d xs) ∧ KeysAt H xs ∧ Q (.bl (atKey xs k).isSome) H
def rSetX (P : Program) (w : World) : TSet := fun o i v H Q => ∃ (d a b : Addr) (k : NestedKey) (xs : List Ent), o = .ref d ∧ i = .ref a ∧ v = .ref b ∧ KeyAt H (a, k) ∧ H d = some (DicO P w d xs) ∧ KeysAt H xs ∧ xs.length ≤ 1000 ∧ atKey xs k = none ∧ Q (upd H d (DicO P w d (xs ++ [(k, a, .ref b)])))
def rLenX (P : Program) (w : World) : List V → Hp → VK → Prop := fun vs H Q => ∃ (d : Addr) (xs : List Ent), vs = [.ref d] ∧ H d = some (DicO P w d xs) ∧ KeysAt H xs ∧ xs.length ≤ 1000 ∧ Q (.int (xs.length : Nat)) H
section
variable {X : Cx} {pos : Pos}
theorem pe_dnewX : PE X (.Dict [] [] pos) (tDNewX X.prog X.w) := ⟨fun pins s σ H Q I q => by
  have hs : (s.heap.objs.size == sysModules) = false := beq_eq_false_iff_ne.mpr (Ne.symm (Nat.ne_of_lt I.big))
  exact wpAny_Dict_empty ⟨.ref s.heap.objs.size, _, I.laid (a := s.heap.objs.size) (o := DicO X.prog X.w s.heap.objs.size []) (t' := s.toks) (fun _ _ e => Heap.get?_push_of_some _ e) (Nat.le_refl _) (dicO_ok ⟨hs, _, #[], 0, Heap.get?_push_size _ rfl, ⟨rfl, rfl, rfl⟩, rfl, rfl, List.nodup_nil⟩), rfl, q _ (I.hok.fresh (Nat.le_refl _))⟩⟩
theorem op_inX (hu : X.A.units + 64 < cLine) : OpR X (compareOp .In) (rInX X.prog X.w) := by
  rintro pins s σ H x y v u Q I rx ry ⟨a, d, k, xs, rfl, rfl, hk, hd, hx, q⟩
  cases rx
  cases ry
  obtain ⟨hs, dd⟩ := dic_of I.hok (.inl hd) hx
  exact wpAny_in_heap (show X.A.in1.units + 8 < cLine by simp only [Around.in1_units]; omega) (hk.is I.hok).1 hs dd ⟨.bl _, H, I.tok _, rfl, q⟩
theorem set_X (hu : X.A.units + 64 < cLine) : PSet X (rSetX X.prog X.w) := by
  rintro pins s σ H o i v ov iv u Q I ro ri rv ⟨d, a, b, k, xs, rfl, rfl, rfl, hk, hd, hx, hl, hn, q⟩
  cases ro
  cases ri
  cases rv
  obtain ⟨hs, dd⟩ := dic_of I.hok (.inl hd) hx
  refine wpAny_setItem_heap (hsz := le1000 hl) (show X.A.in1.units + 8 < cLine by simp only [Around.in1_units]; omega) (hk.is I.hok).1 dd fun h' dd' sb => ?_
  have st : storedH xs k a (Value.ref b) = xs ++ [(k, a, Value.ref b)] := by
    unfold storedH
    rw [hn]
    rfl
  rw [st] at dd'
  obtain ⟨ob, es, ep, ho, h1, h2, h3, _, h4⟩ := dd'
  exact ⟨_, d_write I (by rw [hd]; exact True.intro) sb ⟨ob, ho⟩ (dicO_ok ⟨hs, ob, es, ep, ho, h1, h2, h3, h4⟩), q⟩
theorem call_lenX : CallR X (.builtin "len") (rLenX X.prog X.w) := by
  rintro pins s σ H vs us Q I r ⟨d, xs, rfl, hd, hx, hl, q⟩
  rw [Vals.ref1 r]
  obtain ⟨hs, dd⟩ := dic_of I.hok (.inl hd) hx
  exact call_len_dictH hs dd (by omega) ⟨.int _, H, (I.tok _).tok _, ⟨_, rfl⟩, q⟩
/-- d.get(k, z) -/
def tGetX (P : Program) (w : World) (td ty tx : TE) : TE := fun σ H Q => td σ H fun x H1 => (∃ (d : Addr) (xs : List Ent), x = .ref d ∧ H1 d = some (DicO P w d xs) ∧ KeysAt H1 xs) ∧ ty σ H1 fun y H2 => tx σ H2 fun z H3 =>
  ∃ (d a b : Addr) (k : NestedKey) (xs : List Ent), x = .ref d ∧ y = .ref a ∧ KeyAt H3 (a, k) ∧ H3 d = some (DicO P w d xs) ∧ KeysAt H3 xs ∧ (∃ c, atKey xs k = some (c, Value.ref b)) ∧ Q (.ref b) H3
theorem pe_dgetX {o e f : Expr} {apos cpos : Pos} {td ty tx : TE} (hu : X.A.units + 64 < cLine) (ho : PE X o td) (he : PE X e ty) (hf : PE X f tx) (m : M2 X o "get" apos e f cpos) : PE X (.Call (.Attribute o "get" apos) [e, f] [] cpos) (tGetX X.prog X.w td ty tx) := by
  refine ⟨fun pins s σ H Q I h => ?_⟩
  refine wpAny_Call_method m.base m.few m.line PySem.F.plainAttrs_dict PySem.F.slot_dict_get PySem.F.type_dict_get (thn (ho.run pins s σ H _ I h) fun u s1 ⟨x, H1, I1, rx, ⟨d, xs, ex, hd, hx⟩, q1⟩ => ?_)
  subst ex
  obtain rfl : u = Value.ref d := rx
  obtain ⟨_, dd⟩ := dic_of I1.hok (.inl hd) hx
  have ⟨ob, _, _, g1, g2, _⟩ := dd
  refine ⟨dd.typeIs, fun b eb => by cases eb; exact ⟨ob, g1, g2.2.1⟩, ?_⟩
  rw [m.trees]
  refine Calls.callWith_builtin rfl (Calls.evalArgs_plain (Calls.spliced_cons (thn (he.run pins s1 σ H1 _ I1 q1) fun iv s2 ⟨y, H2, I2, ry, q2⟩ => Calls.spliced_cons (thn (hf.run pins s2 σ H2 _ I2 q2) fun fv s3 ⟨z, H3, I3, rz, d', a, b, k, ys, e1, e2, hk, hd3, hx3, ⟨c, hc⟩, q3⟩ => Calls.spliced_nil ?_))))
  cases e1
  subst e2
  obtain rfl : iv = Value.ref a := ry
  obtain ⟨hs, dd3⟩ := dic_of I3.hok (.inl hd3) hx3
  refine getOr_keyed (show X.A.in1.units + 8 < cLine by simp only [Around.in1_units]; omega) (hk.is I3.hok).1 hs ⟨ys, dd3, rfl⟩ ?_
  rw [valueAt_pairsH, hc]
  exact ⟨.ref b, H3, I3.tok _, rfl, q3⟩
end
/-! ### the keys walked -/
def ItX (P : Program) (w : World) (d : Addr) (o : Obj) (xs : List Ent) : It :=
  ⟨fun i H => H d = some (.frz o (DicO P w d xs)) ∧ i < xs.length, fun i H v H' => H' = H ∧ ∃ x, xs[i]? = some x ∧ v = .ref x.2.1, fun i H => H d = some (.frz o (DicO P w d xs)) ∧ xs.length ≤ i⟩
section
variable {P : Program} {w : World} {K : PySem.W.Frag} {tg : Expr} {d : Addr} {o : Obj} {es : Array DictEntry} {ep : Nat}
theorem frzX {X : Cx} {pins : List (Addr × Obj)} {σ : L2.St} {H : Hp} {s : Shared} {xs : List Ent} (I : Inv X pins σ H s) (e : H d = some (.frz o (DicO X.prog X.w d xs))) :
    (d == sysModules) = false ∧ ∃ (es : Array DictEntry) (ep : Nat), o.data = .dict es ep ∧ s.heap.DictRaw d es ep ∧ es.size = xs.length ∧ ∀ (i : Nat) (hi : i < es.size), ∃ x, xs[i]? = some x ∧ es[i].key = .ref x.2.1 := by
  obtain ⟨g, p, _⟩ := I.hok d _ e
  have ⟨hs, o', es, ep, ho, h1, h2, h3, _⟩ := (show Dic0 X.prog X.w s.heap d xs from p)
  rw [g] at ho
  cases ho
  have z := size_of_entries h3
  refine ⟨hs, es, ep, h2, ⟨o, g, h1, h2⟩, z, fun i hi => ?_⟩
  have hx : i < xs.length := z ▸ hi
  have q := entry_at h3 i
  rw [Array.getElem?_eq_getElem hi, List.getElem?_eq_getElem hx, Option.map_some] at q
  exact ⟨xs[i], List.getElem?_eq_getElem hx, by rw [Option.some.inj q]; rfl⟩
theorem turn_X {xs : List Ent} (it : Addr) (hod : o.data = .dict es ep) (hz : es.size = xs.length) : Turn P w K tg (ItX P w d o xs) [it] it (fun i h => h.IsKeyIter it d i es.size ep) where
  mem := List.mem_cons_self
  obj := fun i h st b hb => by
    obtain rfl := List.mem_singleton.mp hb
    obtain ⟨oi, e, c, dd⟩ := st
    exact ⟨oi, e, fun v z => by rw [dd] at z; cases z⟩
  keep := fun i h h' st k => st.at fun oi e => k it List.mem_cons_self oi e
  item := by
    intro X hP hw hK hc i pins s σ H E I hf st hg
    subst hP hw hK
    obtain ⟨hd, hi⟩ := hg
    obtain ⟨f0, f1, f2, f3, f4, f5⟩ := hf it List.mem_cons_self
    obtain ⟨hs, es', ep', hdt, raw, hsz, ent⟩ := frzX I hd
    obtain ⟨rfl, rfl⟩ := dict_ep hod hdt
    have hi' : i < es'.size := by omega
    obtain ⟨x, hx, hkey⟩ := ent i hi'
    refine wpAny_pyNext_keys_item_raw st raw hi' fun h' st' sb => ?_
    have I1 : Inv X pins σ H { s with heap := h' } := I.turned (t' := s.toks) (fun b ob hb e => (sb.2 b hb).trans e) f0 f1 f3 f4 f5
    have st2 := st'
    obtain ⟨oi, e, c, dd⟩ := st2
    refine ⟨_, rfl, go_of (s := { s with heap := h' }) e c dd (by decide) ⟨.ref x.2.1, H, I1, ?_, ⟨rfl, x, hx, rfl⟩, st', fun b hb => (hf b hb).1⟩⟩
    rw [hkey]
    rfl
  done := by
    intro X hP hw hK hc i pins s σ H E I hf st hg
    subst hP hw hK
    obtain ⟨hd, hi⟩ := hg
    obtain ⟨f0, f1, f2, f3, f4, f5⟩ := hf it List.mem_cons_self
    obtain ⟨hs, es', ep', hdt, raw, hsz, ent⟩ := frzX I hd
    obtain ⟨rfl, rfl⟩ := dict_ep hod hdt
    exact wpAny_pyNext_keys_end_raw (I.ok.hd hc) st raw (by omega) fun h' eb => ⟨rfl, I.turned (t' := s.toks) (fun b ob hb e => eb b ob hb e) f0 f1 f3 f4 f5⟩
  self := fun A i s Q E st h => wpAny_pyIter_keyiter st h
def iKeysX (P : Program) (w : World) (td : TE) : TI := fun σ H R => td σ H fun x H1 => ∃ d o xs, x = .ref d ∧ H1 d = some (.frz o (DicO P w d xs)) ∧ R (ItX P w d o xs) H1
theorem pi_keysX {X : Cx} {e : Expr} {td : TE} {apos cpos : Pos} (he : PE X e td) (hbase : attributeBase e "keys" X.env (eval e X.env) = eval e X.env := by rfl) (hline : (apos.endLine == cpos.line) = true := by rfl) : PI X tg (.Call (.Attribute e "keys" apos) [] [] cpos) (iKeysX X.prog X.w td) := by
  refine ⟨fun pins s σ H R I h => ?_⟩
  refine wpAny_Call_method (T := "dict") (id := "dict.keys") hbase rfl hline F.plainAttrs_dict F.slot_dict_keys F.type_dict_keys (thn (he.run pins s σ H _ I h) fun u s1 ⟨x, H1, I1, rx, d, o, xs, ex, hd, q⟩ => ?_)
  subst ex
  obtain rfl : u = Value.ref d := rx
  obtain ⟨hs, es, ep, hdt, raw, hsz, ent⟩ := frzX I1 hd
  have raw2 := raw
  obtain ⟨ob, g1, g2, g3⟩ := raw2
  refine ⟨raw.typeIs, fun b eb => by cases eb; exact ⟨ob, g1, g2.2.1⟩, ?_⟩
  have I2 : Inv X pins σ H1 { s1 with heap := s1.heap.push { cls := .type "dict_keys", data := .fields #[.ref d] } } := I1.kept (t' := s1.toks) fun b ob q => Heap.get?_push_of_some _ q
  have fin : wpAny (model X.prog X.w) X.A (pyIter (.ref s1.heap.objs.size)) (PIE X pins σ tg R) X.xe { s1 with heap := s1.heap.push { cls := .type "dict_keys", data := .fields #[.ref d] } } :=
    wpAny_pyIter_keys_raw (d := d) (es := es) (ep := ep) ⟨_, Heap.get?_push_size _ rfl, rfl, rfl⟩ (raw.at fun o e => Heap.get?_push_of_some _ e) (pi_one (tk := s1.toks) I2 _ (turn_X _ hdt hsz) ⟨_, Heap.get?_push_size _ rfl, rfl, rfl⟩ q)
  refine (?_ : wpAny _ _ (callWith cpos (.builtin "dict.keys") [.ref d] [] []) _ X.xe s1)
  exact method_meetsIn F.slot_dict_keys F.entry_dict_keys rfl (PySem.evalArgs_none ⟨rfl, raw.typeIs, F.args_dict_keys_1 _, _, meets_dict_keys_raw d hs, ⟨es, ep, raw⟩, fin⟩)
theorem walk_X {xs : List Ent} : Walk (ItX P w d o xs) xs.length (fun H => H d = some (.frz o (DicO P w d xs))) (fun i H v H' => H' = H ∧ ∃ x, xs[i]? = some x ∧ v = .ref x.2.1) :=
  ⟨fun _ _ hi q => ⟨q, hi⟩, fun _ q => ⟨q, Nat.le_refl _⟩, fun _ _ _ _ _ _ y => y⟩
end
end CD
set_option Elab.async false
set_option linter.all false
set_option maxRecDepth 100000
set_option maxHeartbeats 4000000
/-! the codes as keys; the table of the codes -/
namespace CD
open PySem PySem.Spec L2
open PyProof.Rows hiding St
/-! ### the keys -/
def kNs (l : List Nat) : NestedKey := .tup (l.map fun n : Nat => .num (n : Int))
def kWs (ws : List (List Nat)) : NestedKey := .tup (ws.map kNs)
def kCode (nest : Nest) (o : List Nat) : NestedKey := .tup [kNs (ranks nest o), kWs (wordsOf nest o)]
theorem datas_map {α : Type} (g : α → NestedKey) : ∀ l : List α, NestedKey.datas (l.map g) = l.map fun x => (g x).data
  | [] => by simp [NestedKey.datas]
  | a :: l => by rw [List.map_cons, NestedKey.datas, datas_map g l, List.map_cons]
theorem kNs_data (l : List Nat) : (kNs l).data = tuD l := by
  unfold kNs
  rw [NestedKey.data, datas_map]
  simp only [NestedKey.data]
theorem kWs_data (ws : List (List Nat)) : (kWs ws).data = wordsD ws := by
  unfold kWs
  rw [NestedKey.data, datas_map]
  congr 1
  exact List.map_congr_left fun w _ => kNs_data w
theorem kCode_data (nest : Nest) (o : List Nat) : (kCode nest o).data = .tuple [tuD (ranks nest o), wordsD (wordsOf nest o)] := by
  unfold kCode
  rw [NestedKey.data, NestedKey.datas, NestedKey.datas, NestedKey.datas, kNs_data, kWs_data]
theorem numKs_map {α : Type} {g : α → NestedKey} : ∀ {l : List α}, (∀ x ∈ l, numK (g x) = true) → numKs (l.map g) = true
  | [], _ => rfl
  | a :: l, h => by
    show (numK (g a) && numKs (l.map g)) = true
    rw [h a List.mem_cons_self, numKs_map fun x hx => h x (List.mem_cons_of_mem _ hx)]
    rfl
theorem kNs_num (l : List Nat) : numK (kNs l) = true := numKs_map fun _ _ => rfl
theorem kWs_num (ws : List (List Nat)) : numK (kWs ws) = true := numKs_map fun w _ => kNs_num w
theorem kCode_num (nest : Nest) (o : List Nat) : numK (kCode nest o) = true := by
  show (numK (kNs _) && (numK (kWs _) && true)) = true
  rw [kNs_num, kWs_num]
  rfl
theorem dep_all {n : Nat} : ∀ {ks : List NestedKey}, (∀ k ∈ ks, k.depth ≤ n) → NestedKey.depthAll ks ≤ n
  | [], _ => by simp [NestedKey.depthAll]
  | k :: ks, h => by
    rw [NestedKey.depthAll]
    exact Nat.max_le.mpr ⟨h k List.mem_cons_self, dep_all fun x hx => h x (List.mem_cons_of_mem _ hx)⟩
theorem dep_tup {n : Nat} {ks : List NestedKey} (h : ∀ k ∈ ks, k.depth ≤ n) : (NestedKey.tup ks).depth ≤ n + 1 := by
  rw [NestedKey.depth]
  exact Nat.succ_le_succ (dep_all h)
theorem kNs_dep (l : List Nat) : (kNs l).depth ≤ 1 := dep_tup (n := 0) fun k hk => by
  obtain ⟨x, _, rfl⟩ := List.mem_map.mp hk
  rw [NestedKey.depth]
  exact Nat.le_refl _
theorem kWs_dep (ws : List (List Nat)) : (kWs ws).depth ≤ 2 := dep_tup (n := 1) fun k hk => by
  obtain ⟨x, _, rfl⟩ := List.mem_map.mp hk
  exact kNs_dep x
theorem kCode_dep (nest : Nest) (o : List Nat) : (kCode nest o).depth ≤ 3 := dep_tup (n := 2) fun k hk => by
  rcases List.mem_cons.mp hk with e | h
  · rw [e]; exact Nat.le_succ_of_le (kNs_dep _)
  · rw [List.mem_singleton.mp h]; exact kWs_dep _
theorem map_inj {α β : Type} {f : α → β} (hf : ∀ a b, f a = f b → a = b) : ∀ {l m : List α}, l.map f = m.map f → l = m
  | [], [], _ => rfl
  | [], _ :: _, h => by simp at h
  | _ :: _, [], h => by simp at h
  | a :: l, b :: m, h => by
    rw [List.map_cons, List.map_cons] at h
    injection h with h1 h2
    rw [hf a b h1, map_inj hf h2]
theorem kNs_inj {l m : List Nat} (h : kNs l = kNs m) : l = m := by
  injection h with h
  exact map_inj (fun a b e => by injection e with e; exact Int.ofNat.inj e) h
theorem kWs_inj {l m : List (List Nat)} (h : kWs l = kWs m) : l = m := by
  injection h with h
  exact map_inj (fun a b e => kNs_inj e) h
theorem kCode_inj {nest : Nest} {o o' : List Nat} (h : kCode nest o = kCode nest o') : code nest o = code nest o' := by
  injection h with h
  injection h with h1 h2
  injection h2 with h2 _
  exact Prod.ext (kNs_inj h1) (kWs_inj h2)
theorem alike_all {l m : List PyData} (h : ∀ x ∈ l, ∀ y ∈ m, PySem.W.alike x y = true) : PySem.W.alikeAll l m = true := by
  induction l generalizing m with
  | nil => simp [PySem.W.alikeAll]
  | cons x l ih =>
    cases m with
    | nil => simp [PySem.W.alikeAll]
    | cons y m =>
      rw [PySem.W.alikeAll, h x List.mem_cons_self y List.mem_cons_self, ih fun a ha b hb => h a (List.mem_cons_of_mem _ ha) b (List.mem_cons_of_mem _ hb)]
      rfl
theorem alike_tu (l m : List Nat) : PySem.W.alike (tuD l) (tuD m) = true := by
  rw [PySem.W.alike]
  refine alike_all fun x hx y hy => ?_
  obtain ⟨a, _, rfl⟩ := List.mem_map.mp hx
  obtain ⟨b, _, rfl⟩ := List.mem_map.mp hy
  simp [PySem.W.alike]
theorem alike_ws (l m : List (List Nat)) : PySem.W.alike (wordsD l) (wordsD m) = true := by
  rw [PySem.W.alike]
  refine alike_all fun x hx y hy => ?_
  obtain ⟨a, _, rfl⟩ := List.mem_map.mp hx
  obtain ⟨b, _, rfl⟩ := List.mem_map.mp hy
  exact alike_tu a b
theorem ok_ws (ws : List (List Nat)) : Shp 2 (wordsD ws) := shp_tup (n := 1) fun d hd => by
  obtain ⟨w, _, rfl⟩ := List.mem_map.mp hd
  exact shp_tup (n := 0) (shp_ns w)
mutual
theorem noL_data : ∀ k : NestedKey, noL k.data = true
  | .none => by simp only [NestedKey.data, noL]
  | .num _ => by simp only [NestedKey.data, noL]
  | .text _ => by simp only [NestedKey.data, noL]
  | .tup ks => by simp only [NestedKey.data, noL]; exact noLs_datas ks
theorem noLs_datas : ∀ ks : List NestedKey, noLs (NestedKey.datas ks) = true
  | [] => by simp only [NestedKey.datas, noLs]
  | k :: ks => by simp only [NestedKey.datas, noLs, noL_data k, noLs_datas ks, Bool.and_self]
end
mutual
theorem Rep.changeF {H H' : Hp} (et : ∀ b o u, H b = some (.frz o u) → (∃ vs, u = .tup vs) → H' b = some (.frz o u)) : ∀ {d : PyData} {v : V}, noL d = true → Rep H v d → Rep H' v d
  | .none, _, _, r => by cases r; exact .non
  | .bool _, _, _, r => by cases r; exact .bl _
  | .int _, _, _, r => by cases r; exact .int _
  | .str _, _, _, r => nomatch r
  | .list _, _, n, r => by cases n
  | .tuple _, _, n, r => by cases r with | tup h1 h0 h2 => exact .tup (et _ _ _ h1 ⟨_, rfl⟩) h0 (RepAll.changeF et n h2)
  | .dict _, _, _, r => nomatch r
theorem RepAll.changeF {H H' : Hp} (et : ∀ b o u, H b = some (.frz o u) → (∃ vs, u = .tup vs) → H' b = some (.frz o u)) : ∀ {ds : List PyData} {vs : List V}, noLs ds = true → RepAll H vs ds → RepAll H' vs ds
  | [], _, _, r => by cases r; exact .nil
  | _ :: _, _, n, r => by
    have n' : (noL _ && noLs _) = true := n
    rw [Bool.and_eq_true] at n'
    cases r with | cons h1 h2 => exact .cons (Rep.changeF et n'.1 h1) (RepAll.changeF et n'.2 h2)
end
theorem KeyAt.changeT {H H' : Hp} {p : Mem} (k : KeyAt H p) (et : ∀ b o u, H b = some (.frz o u) → H' b = some (.frz o u)) : KeyAt H' p := ⟨k.rep.changeT et (noL_data _), k.num, k.dep⟩
/-! ### the table: the codes of the first orders -/
def EntOk (H : Hp) (nest : Nest) (x : Ent) (o : List Nat) : Prop := x.1 = kCode nest o ∧ KeyAt H (x.2.1, x.1) ∧ ∃ b, x.2.2 = .ref b ∧ Rep H (.ref b) (tuD o)
abbrev EntsAt (H : Hp) (nest : Nest) : List Ent → List (List Nat) → Prop := Paired (EntOk H nest)
theorem EntsAt.up {H H' : Hp} {nest : Nest} {xs : List Ent} {os : List (List Nat)} (h : EntsAt H nest xs os) (s : Same H H') : EntsAt H' nest xs os :=
  Paired.mapP h fun x o ⟨e, k, b, e2, r⟩ => ⟨e, k.up s, b, e2, r.up s⟩
theorem EntsAt.changeT {H H' : Hp} {nest : Nest} {xs : List Ent} {os : List (List Nat)} (h : EntsAt H nest xs os) (et : ∀ b o u, H b = some (.frz o u) → H' b = some (.frz o u)) : EntsAt H' nest xs os :=
  Paired.mapP h fun x o ⟨e, k, b, e2, r⟩ => ⟨e, k.changeT et, b, e2, r.changeT et (noLs_ns o)⟩
theorem EntsAt.keys {H : Hp} {nest : Nest} {xs : List Ent} {os : List (List Nat)} (h : EntsAt H nest xs os) : KeysAt H xs := by
  induction h with
  | nil => intro x hx; cases hx
  | cons e _ ih =>
    intro x hx
    rcases List.mem_cons.mp hx with z | z
    · rw [z]; exact e.2.1
    · exact ih x z
theorem EntsAt.names {H : Hp} {nest : Nest} {xs : List Ent} {os : List (List Nat)} (h : EntsAt H nest xs os) : xs.map (·.1) = os.map (kCode nest) := by
  induction h with
  | nil => rfl
  | cons e _ ih => rw [List.map_cons, List.map_cons, e.1, ih]
theorem EntsAt.len {H : Hp} {nest : Nest} {xs : List Ent} {os : List (List Nat)} (h : EntsAt H nest xs os) : xs.length = os.length := Paired.length h
theorem EntsAt.get {H : Hp} {nest : Nest} {xs : List Ent} {os : List (List Nat)} (h : EntsAt H nest xs os) : ∀ {i : Nat} {o : List Nat}, os[i]? = some o → ∃ x, xs[i]? = some x ∧ EntOk H nest x o := by
  induction h with
  | nil => intro i o e; simp at e
  | @cons x o' xs os e _ ih =>
    intro i o e2
    cases i with
    | zero => exact ⟨x, rfl, by cases e2; exact e⟩
    | succ i => exact ih (i := i) (by simpa using e2)
theorem EntsAt.absent {H : Hp} {nest : Nest} {xs : List Ent} {os : List (List Nat)} (h : EntsAt H nest xs os) {o : List Nat} (hn : ∀ o' ∈ os, code nest o' ≠ code nest o) : atKey xs (kCode nest o) = none := by
  refine atKey_none_of_get fun j p e => ?_
  have m : kCode nest o ∈ xs.map (·.1) := List.mem_map.mpr ⟨_, List.mem_of_getElem? e, rfl⟩
  rw [h.names] at m
  obtain ⟨o', ho', e'⟩ := List.mem_map.mp m
  exact hn o' ho' (kCode_inj e')
theorem EntsAt.found {H : Hp} {nest : Nest} {xs : List Ent} {os : List (List Nat)} (h : EntsAt H nest xs os) (nd : (os.map (code nest)).Nodup) {o : List Nat} (ho : o ∈ os) : ∃ c b, atKey xs (kCode nest o) = some (c, .ref b) ∧ Rep H (.ref b) (tuD o) := by
  obtain ⟨i, hi, e⟩ := List.getElem_of_mem ho
  obtain ⟨x, hx, e1, k, b, e2, r⟩ := h.get (i := i) (o := o) (by rw [List.getElem?_eq_getElem hi, e])
  obtain ⟨k0, c, v⟩ := x
  dsimp only at e1 e2
  subst e1
  subst e2
  refine ⟨c, b, atKey_of_get ?_ hx, r⟩
  rw [h.names]
  refine List.pairwise_map.mpr ((List.pairwise_map.mp nd).imp fun ne e => ne (kCode_inj e))
/-! ### readings of the table -/
section
variable {P : Program} {w : World} {K : PySem.W.Frag} {σ : L2.St} {H : Hp} {pd : Addr} {xs : List Ent} {nest : Nest} {os : List (List Nat)}
theorem y_lenX {j : Nat} (hpd : H pd = some (DicO P w pd xs)) (hk : KeysAt H xs) (hl : xs.length ≤ 1000) (hj : σ[j]? = some (some (.ref pd)) := by rfl) : Y (tCB (rLenX P w) (tCons (tVar j) tNil)) σ H (dN xs.length) := fun H1 s Q q =>
  ⟨.ref pd, hj, pd, xs, rfl, s _ _ hpd, fun x hx => (hk x hx).up s, hl, q _ H1 (Same.refl H1) (.int _)⟩
theorem y_getX {j : Nat} {ty : TE} {o : List Nat} (hpd : H pd = some (DicO P w pd xs)) (hE : EntsAt H nest xs os) (nd : (os.map (code nest)).Nodup) (ho : o ∈ os) (hy : Y ty σ H (.tuple [tuD (ranks nest o), wordsD (wordsOf nest o)])) (hj : σ[j]? = some (some (.ref pd)) := by rfl) :
    Y (tGetX P w (tVar j) ty (tC .non)) σ H (tuD o) := fun H1 s Q q => by
  refine ⟨.ref pd, hj, ⟨pd, xs, rfl, s _ _ hpd, (hE.up s).keys⟩, hy H1 s _ fun v H2 s2 rv => ?_⟩
  have E2 := (hE.up s).up s2
  obtain ⟨c, b, e, r⟩ := E2.found nd ho
  have rv2 : Rep H2 v (kCode nest o).data := by rw [kCode_data]; exact rv
  obtain ⟨a, _, _, rfl, _⟩ := rv.toTup
  exact ⟨pd, a, b, kCode nest o, xs, rfl, rfl, ⟨rv2, kCode_num nest o, Nat.le_trans (kCode_dep nest o) (by decide)⟩, s2 _ _ (s _ _ hpd), E2.keys, ⟨c, e⟩, q _ H2 s2 r⟩
/-- sorted(set([code[j] for code in known.keys()])) -/
theorem codes_go {j : Nat} {g : List Nat → NestedKey} (hpd : H pd = some (DicO P w pd xs)) (hE : EntsAt H nest xs os) (h120 : os.length ≤ 120) (hj : ∀ o, atI [tuD (ranks nest o), wordsD (wordsOf nest o)] (j : Int) = some (g o).data) (gn : ∀ o, numK (g o) = true) (gd : ∀ o, (g o).depth ≤ 2) (gs : ∀ o, Shp 2 (g o).data)
    (ga : ∀ o o', PySem.W.alike (g o).data (g o').data = true) (gt : ∀ o ∈ os, ∃ x r, (g o).data = .tuple (x :: r)) (hσ : ∀ v, (List.set (wipe σ [6]) 6 (some v))[6]? = some (some v)) (hw : ∀ v, wipe (List.set (wipe σ [6]) 6 (some v)) [6] = wipe σ [6]) (h4 : σ[4]? = some (some (.ref pd))) {Q : VK}
    (q : ∀ p H' (L : List Mem), Same H H' → H p = none → H' p = some (.lst (L.map fun m => V.ref m.1)) → (∀ m ∈ L, KeyAt H' m) → (L.map (·.2)).Nodup → (∀ k, k ∈ L.map (·.2) ↔ ∃ o ∈ os, g o = k) → L.length ≤ 120 → Q (.ref p) H') :
    tCB (rSrtN w) (tCons (tCB (rSetN K w) (tCons (tLockE (tLc (iKeysX P w (tVar 4)) (gName 6) tYes (tOp (rIx K) (tVar 6) (tC (.int (j : Int)))) [6])) tNil)) tNil) σ H Q := by
  refine ⟨pd, DicO P w pd xs, hpd, trivial, fun od => ⟨.ref pd, h4, pd, od, xs, rfl, upd_same, fun D nD => lc_it walk_X (fun k H3 => ∃ ks : List Mem, Same (upd H pd (.frz od (DicO P w pd xs))) H3 ∧ H3 D = some (.lst (ks.map fun m => V.ref m.1)) ∧ ks.map (·.2) = (os.take k).map g ∧ ∀ m ∈ ks, KeyAt H3 m)
    ⟨[], same_new nD, upd_same, rfl, fun m hm => by cases hm⟩ (fun k H3 _ ⟨_, s3, _⟩ => s3 _ _ upd_same) ?_ ?_⟩⟩
  · rintro k x H3 H' hk ⟨ks, s3, hD, hks, hkey⟩ ⟨rfl, en, hen, rfl⟩
    have hko : k < os.length := by rw [← hE.len]; exact hk
    obtain ⟨o, ho⟩ : ∃ o, os[k]? = some o := ⟨_, List.getElem?_eq_getElem hko⟩
    obtain ⟨x, hx, e1, kx, _⟩ := hE.get ho
    rw [hen] at hx
    cases hx
    have et : ∀ b o u, H b = some (.frz o u) → H' b = some (.frz o u) := fun b o u e => s3 _ _ (by rw [upd_ne (fun z => by rw [z, hpd] at e; cases e)]; exact e)
    have kx2 := kx.changeT et
    have rx : Rep H' (.ref en.2.1) (.tuple [tuD (ranks nest o), wordsD (wordsOf nest o)]) := by
      have := kx2.rep
      rw [show ((en.2.1, en.1) : Mem).2 = kCode nest o from e1, kCode_data] at this
      exact this
    obtain ⟨c, oc, ys, ec, c1, c0, c2⟩ := rx.toTup
    obtain ⟨v, hv, rv⟩ := rep_at c2 (hj o)
    have hm := List.mem_of_getElem? ho
    obtain ⟨y, r, ey⟩ := gt o hm
    obtain ⟨b, ob, zs, rfl, b1, b0, b2⟩ := (show Rep H' v (.tuple (y :: r)) by rw [← ey]; exact rv).toTup
    have kb : KeyAt H' (b, g o) := ⟨rv, gn o, Nat.le_trans (gd o) (by decide)⟩
    refine ⟨hw _, ?_⟩
    unfold tYes
    have lks : ks.length ≤ 120 := by
      have := congrArg List.length hks
      rw [List.length_map, List.length_map] at this
      rw [this]
      exact Nat.le_trans (List.length_take_le _ _) (by omega)
    refine iteT ⟨_, hσ _, .inr (.inl ⟨c, ys, (j : Int), .ref b, ec, rfl, sqF c1, hv, ks.map (fun m => V.ref m.1), hD, by rw [List.length_map]; exact small1000 (by omega), ks ++ [(b, g o)], fun b' u e => ?_, ?_, ?_, fun m hm2 => ?_⟩)⟩
    · rw [upd_ne (ne_of_none e nD)]
      exact s3 _ _ e
    · rw [upd_same, List.map_append]; rfl
    · rw [List.take_add_one, ho, List.map_append, List.map_append, hks]
      rfl
    · have one : ∀ {m : Mem}, KeyAt H' m → KeyAt (upd H' D (.lst (ks.map (fun m => V.ref m.1) ++ [.ref b]))) m := fun k => k.changeT (tups_upd hD)
      rcases List.mem_append.mp hm2 with z | z
      · exact one (hkey m z)
      · rw [List.mem_singleton.mp z]; exact one kb
  · rintro H3 ⟨ks, s3, hD, hks, hkey⟩
    have a3 : H3 pd = some (.frz od (DicO P w pd xs)) := s3 _ _ upd_same
    have nDp : D ≠ pd := fun z => by rw [z, a3] at hD; cases hD
    have et : ∀ b o u, b ≠ pd → H3 b = some (.frz o u) → upd H3 pd (DicO P w pd xs) b = some (.frz o u) := fun b o u n e => by rw [upd_ne n]; exact e
    have s4 : Same H (upd H3 pd (DicO P w pd xs)) := fun b' u e => by
      by_cases z : b' = pd
      · subst z
        rw [hpd] at e
        rw [upd_same]
        exact e
      · rw [upd_ne z]
        exact s3 _ _ (by rw [upd_ne z]; exact e)
    rw [hE.len, List.take_length] at hks
    -- a frozen tuple there is none of the table's own
    have keys4 : ∀ m ∈ ks, KeyAt (upd H3 pd (DicO P w pd xs)) m := fun m hm => by
      have key : ∀ {v : V} {d : PyData}, noL d = true → Rep H3 v d → Rep (upd H3 pd (DicO P w pd xs)) v d := by
        intro v d hn r
        have : ∀ b o u, H3 b = some (.frz o u) → (∃ vs, u = .tup vs) → upd H3 pd (DicO P w pd xs) b = some (.frz o u) := fun b o u e ⟨vs, eu⟩ => by
          rw [upd_ne (fun z => ?_)]
          · exact e
          · rw [z, a3] at e
            cases e
            cases eu
        exact Rep.changeF this hn r
      exact ⟨key (noL_data _) (hkey m hm).rep, (hkey m hm).num, (hkey m hm).dep⟩
    have lks : ks.length = os.length := by
      have := congrArg List.length hks
      rw [List.length_map, List.length_map] at this
      exact this
    refine ⟨a3, D, ks, rfl, SqL.of (by rw [upd_ne nDp]; exact hD), keys4, by omega, fun a L na sub all nd l120 => ?_⟩
    have s5 := s4.trans (same_new (o := SetO w a L) na)
    have inK : ∀ m ∈ L, m.2 ∈ os.map g := fun m hm => by
      rw [← hks]
      exact List.mem_map.mpr ⟨m, sub m hm, rfl⟩
    have gOf : ∀ m ∈ L, ∃ o ∈ os, g o = m.2 := fun m hm => List.mem_map.mp (inK m hm)
    refine ⟨a, L, rfl, upd_same, fun m hm => (keys4 m (sub m hm)).up (same_new na), fun m hm m' hm' => ?_, fun m hm => ?_, fun m hm => ?_, fun L' p pL np => ?_⟩
    · obtain ⟨o, _, e⟩ := gOf m hm
      obtain ⟨o', _, e'⟩ := gOf m' hm'
      rw [← e, ← e']
      exact ga o o'
    · obtain ⟨o, ho, e⟩ := gOf m hm
      rw [← e]
      exact gt o ho
    · obtain ⟨o, _, e⟩ := gOf m hm
      rw [← e]
      exact Nat.le_trans (gs o).2 (by decide)
    · have s6 := s5.trans (same_new (o := .lst (L'.map fun m => V.ref m.1)) np)
      refine q p _ L' s6 (s5.free np) upd_same (fun m hm => ((keys4 m (sub m (pL.mem_iff.mp hm))).up (same_new na)).up (same_new np)) ((pL.map (·.2)).nodup_iff.mpr nd) (fun k => ⟨fun hk => ?_, fun hk => ?_⟩) (by rw [pL.length_eq]; exact l120)
      · obtain ⟨m, hm, rfl⟩ := List.mem_map.mp hk
        exact gOf m (pL.mem_iff.mp hm)
      · obtain ⟨o, ho, rfl⟩ := hk
        have : g o ∈ ks.map (·.2) := by rw [hks]; exact List.mem_map.mpr ⟨o, ho, rfl⟩
        obtain ⟨m, hm, e⟩ := List.mem_map.mp this
        rw [← e]
        exact (pL.map (·.2)).mem_iff.mpr (all m hm)
end
end CD
set_option Elab.async false
set_option linter.all false
set_option maxRecDepth 100000
set_option maxHeartbeats 4000000
namespace CD
open PySem PySem.Spec L2
open PyProof.Rows hiding St
theorem fact_pos : ∀ n, 0 < fact n
  | 0 => Nat.succ_pos _
  | n + 1 => Nat.mul_pos (Nat.succ_pos _) (fact_pos n)
theorem lift_list {α β : Type} {f : α → β} : ∀ {l : List β}, (∀ b ∈ l, ∃ a, f a = b) → ∃ m : List α, l = m.map f
  | [], _ => ⟨[], rfl⟩
  | b :: l, h => by
    obtain ⟨a, e⟩ := h b List.mem_cons_self
    obtain ⟨m, em⟩ := lift_list fun c hc => h c (List.mem_cons_of_mem _ hc)
    exact ⟨a :: m, by rw [List.map_cons, e, em]⟩
theorem reps_of {α : Type} {H : Hp} {g : α → NestedKey} : ∀ {L : List Mem} {l : List α}, (∀ m ∈ L, KeyAt H m) → L.map (·.2) = l.map g → RepAll H (L.map fun m => V.ref m.1) (l.map fun x => (g x).data)
  | [], [], _, _ => .nil
  | [], _ :: _, _, e => by simp at e
  | _ :: _, [], _, e => by simp at e
  | m :: L, x :: l, h, e => by
    rw [List.map_cons, List.map_cons] at e
    injection e with e1 e2
    have k := (h m List.mem_cons_self).rep
    rw [e1] at k
    exact .cons k (reps_of (fun c hc => h c (List.mem_cons_of_mem _ hc)) e2)
theorem Rep.changeX {p : Addr} {H H' : Hp} {φ : Heap → Prop} {v : V} {d : PyData} (s : SameX p H H') (hp : H p = some (HO.ext φ)) (r : Rep H v d) : Rep H' v d :=
  r.change (fun b xs e => s b _ (fun z => by rw [z, hp] at e; cases e) e) (fun b o u e => s b _ (fun z => by rw [z, hp] at e; cases e) e)
theorem SameX.frzR {r : Addr} {H H' : Hp} {xs : List V} (s : SameX r H H') (hr : H r = some (.lst xs)) : ∀ b o u, H b = some (.frz o u) → H' b = some (.frz o u) := fun b o u e => s b _ (fun z => by rw [z, hr] at e; cases e) e
theorem RowAt.lst {K : PySem.W.Frag} {H : Hp} {r sc : Addr} {xs : List Int} (h : RowAt K H r sc xs) : ∃ ys, H r = some (.lst ys) := let ⟨_, _, _, h⟩ := h; ⟨_, h.row⟩
theorem nest_noL (nest : Nest) : noL (nestD nest) = true := noLs_map fun o _ => by cases o <;> rfl
theorem par_go2 {ta tb : TE} {u : TS} {D : Ends} {σ : L2.St} {H : Hp} {i j : Nat} (h : ta σ H fun x H1 => tb σ H1 fun y H2 => ∃ v w, [x, y] = [v, w] ∧ u D ((σ.set i (some v)).set j (some w)) H2) : tSeq (tPar i j (tCons ta (tCons tb tNil))) u D σ H := h
/-- the code of an order is one that order_of takes, and it leads back -/
theorem order_ok {nest : Nest} {o : List Nat} (hV : Valid nest) (Z : SizesOk nest) (O : IsOrder nest o) : R_order_of [nestD nest, tuD (ranks nest o), wordsD (wordsOf nest o)] (tuD o) := by
  have rl : (ranks nest o).length = nest.length := by unfold ranks; rw [List.length_map, List.length_range]
  refine ⟨nest, ranks nest o, wordsOf nest o, o, hV, Z, rl, fun k hk => ?_, ⟨?_, fun k room h => ?_⟩, orderOf_code hV O.nd O.lt O.all, rfl, rfl⟩
  · have e : (ranks nest o).getD k 0 = rank nest o k := by
      unfold ranks
      rw [List.getD_eq_getElem?_getD, List.getElem?_map, List.getElem?_range hk]
      rfl
    rw [e]
    exact rank_lt Z O hk
  · unfold wordsOf
    rw [List.length_map, rooms_len]
  · have e : (wordsOf nest o).getD k [] = word nest o room := by
      unfold wordsOf
      rw [List.getD_eq_getElem?_getD, List.getElem?_map, h]
      rfl
    rw [e]
    exact word_perm hV Z O room
section
variable {P : Program} {w : World} {K : PySem.W.Frag} {mg : Str → Option Value} {base : Heap} {tk : Tok} {f f1 f2 f3 f4 f5 f6 f7 f8 f9 : Addr} {fd fd1 fd2 fd3 fd4 fd5 fd6 fd7 fd8 fd9 : FuncData}
abbrev s_law : Stmt := topS 40
abbrev n_law : List Str := ["_law_script", "_law_row", "_law_nest_here", "_law_some", "_law_known", "_law_order", "_law_code", "_law_lots", "_law_words", "_law_one", "_law_other", "_law_found"]
theorem sc_law : FnScope n_law ["_law_script"] (defScope s_law) := ⟨rfl, rfl, rfl, by decide +kernel, rfl, by decide +kernel, by decide +kernel⟩
def spLaw (K : PySem.W.Frag) : Sp := fun vs H Q _ => ∃ (a : Addr) (ns : List Int), vs = [.ref a] ∧ SqL K H a (ns.map V.int) ∧ ∀ H', Q (.bl true) H'
abbrev D_law (K : PySem.W.Frag) (mg : Str → Option Value) := Def K mg "law" s_law ["_law_script"]
theorem ok_law (D : D_law K mg f fd) (T : Top mg tk) (G_law_nest : FnOk P w K mg base CX0 3 f1 fd1 ["_law_row", "_law_most"] (spNest K)) (D_law_nest : D_law_nest K mg f1 fd1) (G_law_insides : FnOk P w K mg base CX0 1 f2 fd2 ["_law_nest_here"] (PureR R_law_insides)) (D_law_insides : D_law_insides K mg f2 fd2)
    (G_law_orders : FnOk P w K mg base CX0 1 f3 fd3 ["_law_names"] (PureR R_law_orders)) (D_law_orders : D_law_orders K mg f3 fd3) (G_law_ranks : FnOk P w K mg base CX0 1 f4 fd4 ["_law_some", "_law_order"] (PureR R_law_ranks)) (D_law_ranks : D_law_ranks K mg f4 fd4)
    (G_words_of : FnOk P w K mg base CX0 4 f5 fd5 ["nest", "order"] (PureR R_words_of)) (D_words_of : D_words_of K mg f5 fd5) (G_order_of : FnOk P w K mg base CX0 4 f6 fd6 ["nest", "some", "words"] (PureR R_order_of)) (D_order_of : D_order_of K mg f6 fd6)
    (G_mixings : FnOk P w K mg base CX0 3 f7 fd7 ["nest"] (PureR R_mixings)) (D_mixings : D_mixings K mg f7 fd7) (G_law_pick : FnOk P w K mg base CX0 2 f8 fd8 ["_law_row", "_law_things"] (spPick K)) (D_law_pick : D_law_pick K mg f8 fd8)
    (G_ranks : FnOk P w K mg base CX0 5 f9 fd9 ["nest", "order"] (PureR R_ranks)) (D_ranks : D_ranks K mg f9 fd9) : FnOk P w K mg base CX0 6 f fd ["_law_script"] (spLaw K) := by
  refine D.F.ok sc_law (fun vs H Q E h => ?_) (fun cdv A outer s H vs Q E hr h => ?_)
  · obtain ⟨a, ns, rfl, _⟩ := h
    rfl
  · obtain ⟨sc, ns, rfl, hS, q⟩ := h
    refine ⟨_, (pss_cons (ps_set (i := 1) sc_law.nd rfl (.inl rfl) (pe_lst (pa_cons (pv 0) (pa_cons pe_int (pa_cons pe_int (pa_cons pe_int pa_nil))))))
      (pss_cons (ps_set (i := 2) sc_law.nd rfl (.inl rfl) (pe_call G_law_nest (hr.mono (by decide)) (by rfl) D_law_nest.g D_law_nest.F.kp D_law_nest.b .nil pass0 (pa_cons (pv 1) (pa_cons pe_int pa_nil))))
      (pss_cons (ps_par (i := 3) (j := 4) (by rfl) sc_law.nd rfl rfl (by decide) rfl rfl (pa_cons (pe_call G_law_insides (hr.mono (by decide)) (by rfl) D_law_insides.g D_law_insides.F.kp D_law_insides.b .nil pass0 (pa_cons (pv 2) pa_nil)) (pa_cons pe_dnewX pa_nil)) (by rfl))
      (pss_cons (ps_for PassesOwn.never rfl (pi_list (pe_call G_law_orders (hr.mono (by decide)) (by rfl) D_law_orders.g D_law_orders.F.kp D_law_orders.b .nil pass0 (pa_cons (pe_tupRgF rfl (by rfl) T.tuple (prg_1 (by rfl) T.range (pe_callB (r := rLenS K) call_len_seq (by rfl) T.len PySem.boot_len (pa_cons (pv 2) pa_nil)))) pa_nil))) (pg_name (i := 5) sc_law.nd rfl (.inl rfl)) (pss_cons (ps_set (i := 6) sc_law.nd rfl (.inl rfl) (pe_tupF (pa_cons (pe_call G_law_ranks (hr.mono (by decide)) (by rfl) D_law_ranks.g D_law_ranks.F.kp D_law_ranks.b .nil pass0 (pa_cons (pv 3) (pa_cons (pv 5) pa_nil))) (pa_cons (pe_call G_words_of (hr.mono (by decide)) (by rfl) D_words_of.g D_words_of.F.kp D_words_of.b .nil pass0 (pa_cons (pv 2) (pa_cons (pv 5) pa_nil))) pa_nil))))
      (pss_cons (ps_if (PW.pt (pw_or (pt_cmpR (r := rInX P w) (op_inX hr.units) (pv 6) (pv 4) (by rfl)) (pw_or1 (pt_cmpR (r := rNeD K) (op_neD hr.units) (pe_call G_order_of (hr.mono (by decide)) (by rfl) D_order_of.g D_order_of.F.kp D_order_of.b .nil pass0 (pa_cons (pv 2) (pa_cons (pe_ix (r := rIx K) ix_seq (pv 6) pe_int (fun _ _ => rfl)) (pa_cons (pe_ix (r := rIx K) ix_seq (pv 6) pe_int (fun _ _ => rfl)) pa_nil)))) (pv 5) (nomark _))))) (pss_one (ps_ret pe_bl)) pss_nil)
      (pss_one (ps_asg (pv 5) (pg_sub (pv 4) (pv 6) (set_X hr.units)))))))
      (pss_cons (ps_par (i := 7) (j := 8) (by rfl) sc_law.nd rfl rfl (by decide) rfl rfl (pa_cons (pe_callB (r := rSrtN w) (cr_srtN rfl hr.units) (by rfl) T.sorted (by decide +kernel) (pa_cons (pe_callTy (r := rSetN K w) (cr_setN rfl hr.units) (by rfl) T.set (by decide +kernel) (pa_cons (pe_lock (pe_lc (own := [("_law_code", 6)]) (g := (gName 6)) rfl sc_law.nd (pi_keysX (pv 4)) (blkOk_by (N := n_law) (sc := defScope s_law) (by decide +kernel)) (fun _ _ _ _ _ => (pg_name (i := 6) sc_law.nd rfl (.inl rfl))) (fun _ _ _ _ _ => pts_nil) (fun _ _ _ _ _ => (pe_ix (r := rIx K) ix_seq (pv 6) pe_int (fun _ _ => rfl))))) pa_nil)) pa_nil)) (pa_cons (pe_callB (r := rSrtN w) (cr_srtN rfl hr.units) (by rfl) T.sorted (by decide +kernel) (pa_cons (pe_callTy (r := rSetN K w) (cr_setN rfl hr.units) (by rfl) T.set (by decide +kernel) (pa_cons (pe_lock (pe_lc (own := [("_law_code", 6)]) (g := (gName 6)) rfl sc_law.nd (pi_keysX (pv 4)) (blkOk_by (N := n_law) (sc := defScope s_law) (by decide +kernel)) (fun _ _ _ _ _ => (pg_name (i := 6) sc_law.nd rfl (.inl rfl))) (fun _ _ _ _ _ => pts_nil) (fun _ _ _ _ _ => (pe_ix (r := rIx K) ix_seq (pv 6) pe_int (fun _ _ => rfl))))) pa_nil)) pa_nil)) pa_nil)) (by rfl))
      (pss_cons (ps_if (PW.pt (pw_or (pt_cmpR (r := rNeD K) (op_neD hr.units) (pe_callB (r := rLenS K) call_len_seq (by rfl) T.len PySem.boot_len (pa_cons (pv 8) pa_nil)) (pe_call G_mixings (hr.mono (by decide)) (by rfl) D_mixings.g D_mixings.F.kp D_mixings.b .nil pass0 (pa_cons (pv 2) pa_nil)) (nomark _)) (pw_or1 (pt_cmpR (r := rNeD K) (op_neD hr.units) (pe_op op_mul (pe_callB (r := rLenS K) call_len_seq (by rfl) T.len PySem.boot_len (pa_cons (pv 7) pa_nil)) (pe_callB (r := rLenS K) call_len_seq (by rfl) T.len PySem.boot_len (pa_cons (pv 8) pa_nil))) (pe_callB (r := rLenX P w) call_lenX (by rfl) T.len PySem.boot_len (pa_cons (pv 4) pa_nil)) (nomark _))))) (pss_one (ps_ret pe_bl)) pss_nil)
      (pss_cons (ps_par (i := 9) (j := 10) (by rfl) sc_law.nd rfl rfl (by decide) rfl rfl (pa_cons (pe_call G_law_pick (hr.mono (by decide)) (by rfl) D_law_pick.g D_law_pick.F.kp D_law_pick.b .nil pass0 (pa_cons (pv 1) (pa_cons (pv 7) pa_nil))) (pa_cons (pe_call G_law_pick (hr.mono (by decide)) (by rfl) D_law_pick.g D_law_pick.F.kp D_law_pick.b .nil pass0 (pa_cons (pv 1) (pa_cons (pv 8) pa_nil))) pa_nil)) (by rfl))
      (pss_cons (ps_set (i := 11) sc_law.nd rfl (.inl rfl) (pe_call G_order_of (hr.mono (by decide)) (by rfl) D_order_of.g D_order_of.F.kp D_order_of.b .nil pass0 (pa_cons (pv 2) (pa_cons (pv 9) (pa_cons (pv 10) pa_nil)))))
      (pss_one (ps_ret (pe_and (pe_cmpR (r := rEqD K) (op_eqD hr.units) (pe_dgetX hr.units (pv 4) (pe_tupF (pa_cons (pv 9) (pa_cons (pv 10) pa_nil))) pe_non ⟨by rfl, by rfl, by rfl, by rfl⟩) (pv 11) (nomark _)) (pe_one (pe_cmpR (r := rEqD K) (op_eqD hr.units) (pe_call G_ranks (hr.mono (by decide)) (by rfl) D_ranks.g D_ranks.F.kp D_ranks.b .nil pass0 (pa_cons (pv 2) (pa_cons (pv 11) pa_nil))) (pv 9) (nomark _)))))))))))))), ?_⟩
    -- the row
    refine ⟨.ref sc, rfl, (by decide : 4 ≤ sizeLine), fun r nr => ?_⟩
    have R1 : RowAt K (upd H r (.lst (RowV sc 0 7780 0))) r sc ns := ⟨0, 7780, 0, upd_same, (same_new nr).seq hS, sq_apart hS nr, by decide, by decide, by decide, by decide⟩
    -- the nest
    refine ⟨.ref r, rfl, r, sc, ns, 5, rfl, by decide, by decide, R1, fun nest v2 H2 hV h5 rn s2 R2 => ?_⟩
    have G := good_of hV h5
    obtain ⟨o1, o2, o3⟩ := orders_isOrder h5 (nest := nest) rfl
    have os120 : (orders nest.length).length ≤ 120 := (ordersF_le h5 (Nat.le_refl _)).1
    have os0 : 0 < (orders nest.length).length := by rw [o1]; exact fact_pos _
    have ndc : ((orders nest.length).map (code nest)).Nodup := nodup_map_on o2 fun x hx y hy e => code_inj G hx hy e
    have hl : (nest.map dO).length = nest.length := List.length_map ..
    -- the doors inside, the table
    refine (y_call (R := R_law_insides) (ya_cons (y_var (i := 2) (σ := [some (.ref sc), some (.ref r), some v2, none, none, none, none, none, none, none, none, none]) rn) ya_nil) ⟨nest, hV, h5, rfl, rfl⟩).go fun v3 H3 s3 r3 => fun pd npd => ⟨v3, .ref pd, rfl, ?_⟩
    have R3 := R2.up s3
    obtain ⟨ur, hur⟩ := R3.at
    have nrp : r ≠ pd := fun z => by rw [← z, hur] at npd; cases npd
    have s4 : Same H3 (upd H3 pd (DicO P w pd [])) := same_new npd
    have rn4 := (rn.up s3).up s4
    -- all orders
    refine (y_call (R := R_law_orders) (ya_cons (y_tupRg1 (n := nest.length) (yc (by rw [hl]) (y_lent (y_var (i := 2) (σ := [some (.ref sc), some (.ref r), some v2, some v3, some (.ref pd), none, none, none, none, none, none, none]) rn4))) (by omega)) ya_nil) ⟨nest.length, h5, rfl, rfl⟩).go fun u H5 s5 ru => ?_
    obtain ⟨oa, xs, rfl, g1, g2⟩ := ru.toLst
    have xl : xs.length = (orders nest.length).length := by rw [g2.len, List.length_map]
    have hpd5 : H5 pd = some (DicO P w pd []) := s5 _ _ upd_same
    have R5 := (R3.up s4).up s5
    have ap : sc ≠ pd ∨ KSq K sc (ns.map V.int) := sq_apart R3.cells npd
    have rn5 := rn4.up s5
    have r35 := (r3.up s4).up s5
    refine ⟨oa, rfl, ⟨xs, SqL.of g1⟩, for_list (xs := xs) (fun i σ Hn => ∃ (y5 y6 : Option V) (ents : List Ent), σ = [some (.ref sc), some (.ref r), some v2, some v3, some (.ref pd), y5, y6, none, none, none, none, none] ∧ SameX pd H5 Hn ∧ Hn pd = some (DicO P w pd ents) ∧ EntsAt Hn nest ents ((orders nest.length).take i))
      ⟨none, none, [], rfl, SameX.refl _ _, hpd5, .nil⟩ (fun i σ Hn _ ⟨_, _, _, _, sn, _, _⟩ => SqL.of (sn _ _ (fun z => by rw [z, hpd5] at g1; cases g1) g1)) ?_ ?_⟩
    · rintro i x σ Hn hx ⟨y5, y6, ents, rfl, sn, hpd, hE⟩
      have hi : i < (orders nest.length).length := by rw [← xl]; exact (List.getElem?_eq_some_iff.mp hx).1
      obtain ⟨o, ho⟩ : ∃ o, (orders nest.length)[i]? = some o := ⟨_, List.getElem?_eq_getElem hi⟩
      have hom := List.mem_of_getElem? ho
      have O := o3 o hom
      obtain ⟨x', e1, rx⟩ := g2.get (i := i) (d := tuD o) (by rw [List.getElem?_map, ho]; rfl)
      rw [hx] at e1
      cases e1
      have rxn := rx.changeX sn hpd5
      have rnn := rn5.changeX sn hpd5
      have r3n := r35.changeX sn hpd5
      -- the code
      refine set_go (y_tup (ya_cons (y_call (R := R_law_ranks) (ya_cons (y_var (i := 3) r3n) (ya_cons (y_var (i := 5) rxn) ya_nil)) ⟨nest, o, hV, h5, O, rfl, rfl⟩) (ya_cons (y_call (R := R_words_of) (ya_cons (y_var (i := 2) rnn) (ya_cons (y_var (i := 5) rxn) ya_nil)) ⟨nest, o, hV, O, rfl, rfl⟩) ya_nil)) (by simp)) fun v6 H6 s6 r6 => ?_
      obtain ⟨a, oa', ys, rfl, a1, a0, a2⟩ := r6.toTup
      have hpd6 := s6 _ _ hpd
      have E6 := hE.up s6
      have k6 : KeyAt H6 (a, kCode nest o) := ⟨by rw [kCode_data]; exact r6, kCode_num nest o, Nat.le_trans (kCode_dep nest o) (by decide)⟩
      have none6 : atKey ents (kCode nest o) = none := E6.absent fun o' ho' e => by
        have m' := List.mem_of_mem_take ho'
        have eo := code_inj G m' hom e
        subst eo
        obtain ⟨j, hj, ej⟩ := List.getElem_of_mem ho'
        rw [List.length_take] at hj
        rw [List.getElem_take] at ej
        obtain ⟨hi2, ei⟩ := List.getElem?_eq_some_iff.mp ho
        exact List.pairwise_iff_getElem.mp o2 j i (by omega) hi2 (by omega) (ej.trans ei.symm)
      -- not there yet, and it leads back
      refine ⟨.ref a, rfl, .ref pd, rfl, a, pd, kCode nest o, ents, rfl, rfl, k6, hpd6, E6.keys, (atKey ents (kCode nest o)).isSome, rfl, ?_⟩
      rw [none6]
      refine iteF ?_
      refine (ytc (c := false) ?_ (yt_test (y_ne (σ := [some (.ref sc), some (.ref r), some v2, some v3, some (.ref pd), some x, some (.ref a), none, none, none, none, none]) (y_call (R := R_order_of) (ya_cons (y_var (i := 2) (rnn.up s6)) (ya_cons (y_ixt (y_var (i := 6) r6) y_int (atI_nat (j := 0) rfl)) (ya_cons (y_ixt (y_var (i := 6) r6) y_int (atI_nat (j := 1) rfl)) ya_nil))) (order_ok hV G.z O)) (y_var (i := 5) (rxn.up s6)) (ok_tn _) (ok_tn _)))).go fun H7 s7 => iteF ?_
      · rw [ev_tt, decide_eq_true rfl]
        rfl
      · have rx7 := (rxn.up s6).up s7
        obtain ⟨b, ob, zs, rfl, b1, b0, b2⟩ := rx7.toTup
        have hpd7 := s7 _ _ hpd6
        have E7 := E6.up s7
        have le : ents.length ≤ 120 := by rw [hE.len]; exact Nat.le_trans (List.length_take_le _ _) (by omega)
        have et2 : ∀ b' o' u', H7 b' = some (.frz o' u') → upd H7 pd (DicO P w pd (ents ++ [(kCode nest o, a, Value.ref b)])) b' = some (.frz o' u') := fun b' o' u' e => by rw [upd_ne (fun z => by rw [z, hpd7] at e; cases e)]; exact e
        refine ⟨.ref b, rfl, .ref pd, rfl, .ref a, rfl, pd, a, b, kCode nest o, ents, rfl, rfl, rfl, k6.up s7, hpd7, E7.keys, by omega, none6, _, _, ents ++ [(kCode nest o, a, Value.ref b)], rfl, fun c u n e => ?_, upd_same, ?_⟩
        · rw [upd_ne n]
          exact s7 _ _ (s6 _ _ (sn _ _ n e))
        · rw [List.take_add_one, ho]
          exact Paired.snoc (E7.changeT et2) ⟨rfl, (k6.up s7).changeT et2, b, rfl, rx7.changeT et2 (noLs_ns o)⟩
    · rintro σ Hn ⟨y5, y6, ents, rfl, sn, hpd, hE⟩
      rw [xl, List.take_length] at hE
      have rnn := rn5.changeX sn hpd5
      have Rn : RowAt K Hn r sc ns := by
        obtain ⟨a, b, c, RI⟩ := R5
        exact ⟨a, b, c, sn _ _ nrp RI.row, sn.seq ap RI.cells, RI.ne, RI.a0, RI.b0, RI.b1, RI.c0⟩
      have three : ∀ l : List Nat, l.length = nest.length → ∃ x t, tuD l = .tuple (x :: t) := fun l h => by
        cases l with
        | nil => have := hV.pos; rw [List.length_nil] at h; omega
        | cons a l => exact ⟨_, _, rfl⟩
      -- the ranks, the words, each once
      refine par_go2 (codes_go (j := 0) (g := fun o => kNs (ranks nest o)) hpd hE os120 (fun o => by rw [kNs_data]; rfl) (fun o => kNs_num _) (fun o => Nat.le_succ_of_le (kNs_dep _)) (fun o => by rw [kNs_data]; exact shp_tup (n := 1) (shp_ns _)) (fun o o' => by rw [kNs_data, kNs_data]; exact alike_tu _ _)
        (fun o ho => by rw [kNs_data]; exact three _ (by unfold ranks; rw [List.length_map, List.length_range])) (fun _ => rfl) (fun _ => rfl) rfl fun p1 H6 L1 s6 n1 hp1 k1 nd1 m1 l1 => ?_)
      refine codes_go (j := 1) (g := fun o => kWs (wordsOf nest o)) (s6 _ _ hpd) (hE.up s6) os120 (fun o => by rw [kWs_data]; rfl) (fun o => kWs_num _) (fun o => kWs_dep _) (fun o => by rw [kWs_data]; exact ok_ws _) (fun o o' => by rw [kWs_data, kWs_data]; exact alike_ws _ _)
        (fun o ho => ?_) (fun _ => rfl) (fun _ => rfl) rfl fun p2 H7 L2 s7 n2 hp2 k2 nd2 m2 l2 => ⟨_, _, rfl, ?_⟩
      · rw [kWs_data]
        unfold wordsOf rooms
        rw [List.map_append]
        cases h : (List.map (word nest o) (List.map some (List.range nest.length))) with
        | nil => exact ⟨_, _, rfl⟩
        | cons a l => exact ⟨_, _, rfl⟩
      · obtain ⟨lots, e1⟩ : ∃ lots : List (List Nat), L1.map (·.2) = lots.map kNs := lift_list fun k hk => by
          obtain ⟨o, _, e⟩ := (m1 k).mp hk
          exact ⟨_, e⟩
        obtain ⟨words, e2⟩ : ∃ words : List (List (List Nat)), L2.map (·.2) = words.map kWs := lift_list fun k hk => by
          obtain ⟨o, _, e⟩ := (m2 k).mp hk
          exact ⟨_, e⟩
        rw [e1] at nd1 m1
        rw [e2] at nd2 m2
        obtain ⟨pw, pl, pc⟩ := plain G os0 (lots := lots) (words := words) (nodup_of_map nd1) (nodup_of_map nd2)
          (fun rr => ⟨fun h => by
            obtain ⟨o, ho, e⟩ := (m1 (kNs rr)).mp (List.mem_map.mpr ⟨rr, h, rfl⟩)
            exact ⟨o, ho, kNs_inj e⟩, fun ⟨o, ho, e⟩ => by
            obtain ⟨r', hr', e'⟩ := List.mem_map.mp ((m1 (kNs rr)).mpr ⟨o, ho, by rw [← e]⟩)
            rw [← kNs_inj e']
            exact hr'⟩)
          (fun ww => ⟨fun h => by
            obtain ⟨o, ho, e⟩ := (m2 (kWs ww)).mp (List.mem_map.mpr ⟨ww, h, rfl⟩)
            exact ⟨o, ho, kWs_inj e⟩, fun ⟨o, ho, e⟩ => by
            obtain ⟨r', hr', e'⟩ := List.mem_map.mp ((m2 (kWs ww)).mpr ⟨o, ho, by rw [← e]⟩)
            rw [← kWs_inj e']
            exact hr'⟩)
        have lo1 : L1.length = lots.length := by have := congrArg List.length e1; rw [List.length_map, List.length_map] at this; exact this
        have wo2 : L2.length = words.length := by have := congrArg List.length e2; rw [List.length_map, List.length_map] at this; exact this
        have hp17 := s7 _ _ hp1
        have k17 : ∀ m ∈ L1, KeyAt H7 m := fun m hm => (k1 m hm).up s7
        have rlots : Rep H7 (.ref p1) (.list (lots.map fun x => (kNs x).data)) := .lst hp17 (reps_of k17 e1)
        have rwords : Rep H7 (.ref p2) (.list (words.map fun x => (kWs x).data)) := .lst hp2 (reps_of k2 e2)
        have s07 := s6.trans s7
        have hpd7 := s07 _ _ hpd
        have E7 := hE.up s07
        have le : ents.length ≤ 120 := by rw [hE.len]; exact os120
        -- as many as there should be
        refine if_no ((yt_or (b := false) (c := false) (ytc ?_ (yt_test (y_ne (y_len (y_var (i := 8) rwords)) (y_call (R := R_mixings) (ya_cons (y_var (i := 2) (rnn.up s07)) ya_nil) ⟨nest, hV, h5, rfl, rfl⟩) ok_int ok_int))) fun _ => ytc ?_ (yt_test (y_ne (y_mul (y_len (y_var (i := 7) rlots)) (y_len (y_var (i := 8) rwords)) ?_) (y_lenX (j := 4) hpd7 E7.keys (by omega)) ok_int ok_int))).cast rfl) fun H8 s8 => ?_
        · rw [ev_nn, List.length_map, pw, decide_eq_true rfl]
          rfl
        · rw [List.length_map, List.length_map, E7.len, ← pl]
          show (!PyData.eqv (.int ((lots.length : Int) * (words.length : Int))) (.int ((lots.length * words.length : Nat) : Int))) = false
          rw [Int.natCast_mul]
          show (!((lots.length : Int) * (words.length : Int) == (lots.length : Int) * (words.length : Int))) = false
          rw [beq_self_eq_true]
          rfl
        · rw [List.length_map, List.length_map]
          exact .inl ⟨by omega, by omega⟩
        · -- one of each
          have s08 := s07.trans s8
          have R8 := Rn.up s08
          obtain ⟨yr, hyr⟩ := R8.lst
          have hp18 := s8 _ _ hp17
          have hp28 := s8 _ _ hp2
          have pos1 : 0 < lots.length := Nat.pos_of_ne_zero fun z => by rw [z, Nat.zero_mul] at pl; omega
          have pos2 : 0 < words.length := Nat.pos_of_ne_zero fun z => by rw [z, Nat.mul_zero] at pl; omega
          obtain ⟨uR, hR⟩ := Rn.at
          have ne1 : p1 ≠ r := fun z => by rw [z, hR] at n1; cases n1
          have ne2 : p2 ≠ r := fun z => by rw [z, s6 _ _ hR] at n2; cases n2
          have nz1 : (L1.map fun m => V.ref m.1) ≠ [] := fun z => by
            have := congrArg List.length z
            rw [List.length_map, List.length_nil] at this
            omega
          have nz2 : (L2.map fun m => V.ref m.1) ≠ [] := fun z => by
            have := congrArg List.length z
            rw [List.length_map, List.length_nil] at this
            omega
          refine par_go2 ⟨.ref r, rfl, .ref p1, rfl, r, sc, p1, ns, _, rfl, R8, SqL.of hp18, ne1, nz1, by rw [List.length_map]; omega, fun i1 x1 H9 hx1 s9 R9 => ⟨.ref r, rfl, .ref p2, rfl, r, sc, p2, ns, _, rfl, R9, SqL.of (s9 _ _ ne2 hp28), ne2, nz2, by rw [List.length_map]; omega, fun i2 x2 H10 hx2 s10 R10 => ⟨_, _, rfl, ?_⟩⟩⟩
          rw [List.getElem?_map] at hx1 hx2
          obtain ⟨q1, hq1, rfl⟩ := Option.map_eq_some_iff.mp hx1
          obtain ⟨q2, hq2, rfl⟩ := Option.map_eq_some_iff.mp hx2
          have mq1 := List.mem_of_getElem? hq1
          have mq2 := List.mem_of_getElem? hq2
          obtain ⟨rr, hrr, er⟩ : ∃ rr ∈ lots, kNs rr = q1.2 := List.mem_map.mp (by rw [← e1]; exact List.mem_map.mpr ⟨q1, mq1, rfl⟩)
          obtain ⟨ww, hww, ew⟩ : ∃ ww ∈ words, kWs ww = q2.2 := List.mem_map.mp (by rw [← e2]; exact List.mem_map.mpr ⟨q2, mq2, rfl⟩)
          obtain ⟨o, ho, ec⟩ := pc rr hrr ww hww
          have ec1 : ranks nest o = rr := congrArg Prod.fst ec
          have ec2 : wordsOf nest o = ww := congrArg Prod.snd ec
          subst ec1
          subst ec2
          have O := o3 o ho
          have sx : SameX r H8 H10 := s9.trans s10
          have et := sx.frzR hyr
          have ro : Rep H10 (.ref q1.1) (tuD (ranks nest o)) := by
            have := ((k17 q1 mq1).up s8).changeT et |>.rep
            rw [← er, kNs_data] at this
            exact this
          have rw2 : Rep H10 (.ref q2.1) (wordsD (wordsOf nest o)) := by
            have := ((k2 q2 mq2).up s8).changeT et |>.rep
            rw [← ew, kWs_data] at this
            exact this
          have rn10 : Rep H10 v2 (nestD nest) := (rnn.up s08).changeT et (nest_noL nest)
          have hpd10 : H10 pd = some (DicO P w pd ents) := sx _ _ nrp.symm (s8 _ _ hpd7)
          have E10 : EntsAt H10 nest ents (orders nest.length) := (E7.up s8).changeT et
          -- it leads back, to what the table has
          refine set_go (y_call (R := R_order_of) (ya_cons (y_var (i := 2) rn10) (ya_cons (y_var (i := 9) ro) (ya_cons (y_var (i := 10) rw2) ya_nil))) (order_ok hV G.z O)) fun v11 H11 s11 r11 => ?_
          refine ret_go (d := .bool true) (y_and (b := true) (yc ?_ (y_eq (y_getX (j := 4) (s11 _ _ hpd10) (E10.up s11) ndc ho (y_tup (ya_cons (y_var (i := 9) (ro.up s11)) (ya_cons (y_var (i := 10) (rw2.up s11)) ya_nil)) (by simp))) (y_var (i := 11) r11) (ok_tn _) (ok_tn _))) (fun _ => yc ?_ (y_eq (y_call (R := R_ranks) (ya_cons (y_var (i := 2) (rn10.up s11)) (ya_cons (y_var (i := 11) r11) ya_nil)) ⟨nest, o, hV, O, rfl, rfl⟩) (y_var (i := 9) (ro.up s11)) (ok_tn _) (ok_tn _))) (fun z => by cases z)) fun v H12 s12 rv => ?_
          · rw [ev_tt, decide_eq_true rfl]
          · rw [ev_tt, decide_eq_true rfl]
          · rw [rv.toBl]
            exact q _
end
end CD
set_option Elab.async false
set_option linter.all false
set_option maxRecDepth 100000
set_option maxHeartbeats 0
namespace CD
open PySem PySem.Spec L2
open PyProof.Rows hiding St
/-! ### the head: where each def stands -/
def hd (x : Str) (i : Nat) : He.DefD := ⟨(x, none), x, x, defArgs (topS i), defBody (topS i), defScope (topS i), [], []⟩
def defNames : List (Str × Nat) := [("is_in", 7), ("need_nest", 10), ("around_in", 11), ("inside_in", 12), ("sizes_in", 13), ("product", 14), ("mixings_in", 15), ("mixings", 16), ("is_order", 18), ("need_order", 19), ("rank_in", 20), ("ranks_in", 21), ("ranks", 22), ("is_ranks", 23),
  ("room_of", 25), ("rooms", 26), ("within", 27), ("words_of", 28), ("is_word", 29), ("is_words", 30), ("mixed", 31), ("order_of", 32), ("_law_taken", 34), ("_law_pick", 35), ("_law_nest", 36), ("_law_insides", 37), ("_law_orders", 38), ("_law_ranks", 39), ("law", 40)]
def hdFn : List He.DefD := defNames.map fun p => hd p.1 p.2
def freeNames : List Str := ["len", "range", "list", "tuple", "int", "bool", "isinstance", "enumerate", "sorted", "dict", "set"]
def hdFa : List He.Fa := (defNames.map fun p => He.Fa.glo p.1) ++ (freeNames.map He.Fa.free ++ [He.Fa.int "MOST_DOORS" 9])
abbrev RR : PySem.W.OpenRow := PySem.W.OpenLaw.row PySem.Challenge.rw_countdoors_k80_whole_codes_of_orders
abbrev hkD : PySem.W.Hook := He.hookD 4 hdFa hdFn
def obD (s : PySem.W.SharedT) : He.AlD := He.obsDG 4 hdFa hdFn (HandSHeadRun.getT s)
theorem obD_eq (s : PySem.W.SharedT) : obD s = hkD.obs s.abs := He.obsDG_eq (HandSHeadRun.getT_eq s)
def looseD : List Str := (["DoorError", "BadNest", "BadOrder", "BadRanks", "BadWords", "MOST_DOORS", "is_in", "need_nest", "around_in", "inside_in", "sizes_in", "product", "mixings_in", "mixings", "is_order", "need_order", "rank_in"] : List Str) ++
  (["ranks_in", "ranks", "is_ranks", "room_of", "rooms", "within", "words_of", "is_word", "is_words", "mixed", "order_of", "_law_taken", "_law_pick", "_law_nest", "_law_insides", "_law_orders", "_law_ranks"] : List Str)
theorem runD (w : World) : HandSHeadRun.RunEq RR (PySem.W.view RR.prog [40]) hkD obD 6000 looseD w := by
  intro os
  kernel_rfl
end CD
set_option Elab.async false
set_option linter.all false
set_option maxRecDepth 100000
set_option maxHeartbeats 0
namespace CD
open PySem PySem.Spec L2
open PyProof.Rows hiding St
/-! ### what the head tells, def by def -/
section
variable {K : PySem.W.Frag} {h : Heap} {mg : Str → Option Value}
theorem fun_of {x : Str} {i : Nat} {f : Addr} {fd : FuncData} (F : FunD K x x (defArgs (topS i)) (defBody (topS i)) (defScope (topS i)) [] [] f fd) : Fun K x x (topS i) f fd := by
  obtain ⟨oc, od, dV, kV, doc, pm, an, cdv, ct, osl, e, lk, hcd, hD, _⟩ := F.ex
  rcases hD with ⟨_, rfl⟩ | ⟨e2, _⟩
  · exact ⟨⟨oc, od, kV, doc, pm, an, cdv, ct, osl, e, lk, hcd⟩, F.kp⟩
  · exact absurd rfl e2
theorem def_at {x : Str} {i : Nat} (c : He.SaysD hdFa hdFn K) (X : K.In h) (G : h.Ns mainGlobals mg) (n : Nat) (e1 : hdFn[n]? = some (hd x i)) (e2 : hdFa[n]? = some (.glo x)) : ∃ fd, Fun K x x (topS i) (He.ga K x) fd ∧ mg x = some (.ref (He.ga K x)) := by
  obtain ⟨fd, F⟩ := c.def_ n e1
  exact ⟨fd, fun_of F, He.glo_ok X G (c.fact n e2)⟩
theorem facts {P : Program} {w : World} {f : Addr} (X : K.In h) (G : h.Ns mainGlobals mg) (hfa : mg ("law" : Str) = some (.ref f)) (c : He.SaysD hdFa hdFn K) :
    ∃ fd : FuncData, (∀ (s : Shared) (v : Value), BindsTo s fd ⟨[v], []⟩ [("_law_script", v)]) ∧ ∀ base : Heap, K.In base → base.Ns mainGlobals mg → FnOk P w K mg base CX0 6 f fd ["_law_script"] (spLaw K) := by
  obtain ⟨fd_is_in, F_is_in, g_is_in⟩ := def_at c X G 0 rfl rfl
  have d_is_in : D_is_in K mg _ fd_is_in := ⟨F_is_in, F_is_in.binds fun _ _ _ _ _ _ us hl => match us, hl with | [_, _, _], _ => rfl, g_is_in⟩
  obtain ⟨fd_need_nest, F_need_nest, g_need_nest⟩ := def_at c X G 1 rfl rfl
  have d_need_nest : D_need_nest K mg _ fd_need_nest := ⟨F_need_nest, F_need_nest.binds fun _ _ _ _ _ _ us hl => match us, hl with | [_], _ => rfl, g_need_nest⟩
  obtain ⟨fd_around_in, F_around_in, g_around_in⟩ := def_at c X G 2 rfl rfl
  have d_around_in : D_around_in K mg _ fd_around_in := ⟨F_around_in, F_around_in.binds fun _ _ _ _ _ _ us hl => match us, hl with | [_, _], _ => rfl, g_around_in⟩
  obtain ⟨fd_inside_in, F_inside_in, g_inside_in⟩ := def_at c X G 3 rfl rfl
  have d_inside_in : D_inside_in K mg _ fd_inside_in := ⟨F_inside_in, F_inside_in.binds fun _ _ _ _ _ _ us hl => match us, hl with | [_, _], _ => rfl, g_inside_in⟩
  obtain ⟨fd_sizes_in, F_sizes_in, g_sizes_in⟩ := def_at c X G 4 rfl rfl
  have d_sizes_in : D_sizes_in K mg _ fd_sizes_in := ⟨F_sizes_in, F_sizes_in.binds fun _ _ _ _ _ _ us hl => match us, hl with | [_], _ => rfl, g_sizes_in⟩
  obtain ⟨fd_product, F_product, g_product⟩ := def_at c X G 5 rfl rfl
  have d_product : D_product K mg _ fd_product := ⟨F_product, F_product.binds fun _ _ _ _ _ _ us hl => match us, hl with | [_], _ => rfl, g_product⟩
  obtain ⟨fd_mixings_in, F_mixings_in, g_mixings_in⟩ := def_at c X G 6 rfl rfl
  have d_mixings_in : D_mixings_in K mg _ fd_mixings_in := ⟨F_mixings_in, F_mixings_in.binds fun _ _ _ _ _ _ us hl => match us, hl with | [_], _ => rfl, g_mixings_in⟩
  obtain ⟨fd_mixings, F_mixings, g_mixings⟩ := def_at c X G 7 rfl rfl
  have d_mixings : D_mixings K mg _ fd_mixings := ⟨F_mixings, F_mixings.binds fun _ _ _ _ _ _ us hl => match us, hl with | [_], _ => rfl, g_mixings⟩
  obtain ⟨fd_is_order, F_is_order, g_is_order⟩ := def_at c X G 8 rfl rfl
  have d_is_order : D_is_order K mg _ fd_is_order := ⟨F_is_order, F_is_order.binds fun _ _ _ _ _ _ us hl => match us, hl with | [_, _], _ => rfl, g_is_order⟩
  obtain ⟨fd_need_order, F_need_order, g_need_order⟩ := def_at c X G 9 rfl rfl
  have d_need_order : D_need_order K mg _ fd_need_order := ⟨F_need_order, F_need_order.binds fun _ _ _ _ _ _ us hl => match us, hl with | [_, _], _ => rfl, g_need_order⟩
  obtain ⟨fd_rank_in, F_rank_in, g_rank_in⟩ := def_at c X G 10 rfl rfl
  have d_rank_in : D_rank_in K mg _ fd_rank_in := ⟨F_rank_in, F_rank_in.binds fun _ _ _ _ _ _ us hl => match us, hl with | [_, _, _], _ => rfl, g_rank_in⟩
  obtain ⟨fd_ranks_in, F_ranks_in, g_ranks_in⟩ := def_at c X G 11 rfl rfl
  have d_ranks_in : D_ranks_in K mg _ fd_ranks_in := ⟨F_ranks_in, F_ranks_in.binds fun _ _ _ _ _ _ us hl => match us, hl with | [_, _], _ => rfl, g_ranks_in⟩
  obtain ⟨fd_ranks, F_ranks, g_ranks⟩ := def_at c X G 12 rfl rfl
  have d_ranks : D_ranks K mg _ fd_ranks := ⟨F_ranks, F_ranks.binds fun _ _ _ _ _ _ us hl => match us, hl with | [_, _], _ => rfl, g_ranks⟩
  obtain ⟨fd_is_ranks, F_is_ranks, g_is_ranks⟩ := def_at c X G 13 rfl rfl
  have d_is_ranks : D_is_ranks K mg _ fd_is_ranks := ⟨F_is_ranks, F_is_ranks.binds fun _ _ _ _ _ _ us hl => match us, hl with | [_, _], _ => rfl, g_is_ranks⟩
  obtain ⟨fd_room_of, F_room_of, g_room_of⟩ := def_at c X G 14 rfl rfl
  have d_room_of : D_room_of K mg _ fd_room_of := ⟨F_room_of, F_room_of.binds fun _ _ _ _ _ _ us hl => match us, hl with | [_, _, _], _ => rfl, g_room_of⟩
  obtain ⟨fd_rooms, F_rooms, g_rooms⟩ := def_at c X G 15 rfl rfl
  have d_rooms : D_rooms K mg _ fd_rooms := ⟨F_rooms, F_rooms.binds fun _ _ _ _ _ _ us hl => match us, hl with | [_], _ => rfl, g_rooms⟩
  obtain ⟨fd_within, F_within, g_within⟩ := def_at c X G 16 rfl rfl
  have d_within : D_within K mg _ fd_within := ⟨F_within, F_within.binds fun _ _ _ _ _ _ us hl => match us, hl with | [_, _], _ => rfl, g_within⟩
  obtain ⟨fd_words_of, F_words_of, g_words_of⟩ := def_at c X G 17 rfl rfl
  have d_words_of : D_words_of K mg _ fd_words_of := ⟨F_words_of, F_words_of.binds fun _ _ _ _ _ _ us hl => match us, hl with | [_, _], _ => rfl, g_words_of⟩
  obtain ⟨fd_is_word, F_is_word, g_is_word⟩ := def_at c X G 18 rfl rfl
  have d_is_word : D_is_word K mg _ fd_is_word := ⟨F_is_word, F_is_word.binds fun _ _ _ _ _ _ us hl => match us, hl with | [_, _, _], _ => rfl, g_is_word⟩
  obtain ⟨fd_is_words, F_is_words, g_is_words⟩ := def_at c X G 19 rfl rfl
  have d_is_words : D_is_words K mg _ fd_is_words := ⟨F_is_words, F_is_words.binds fun _ _ _ _ _ _ us hl => match us, hl with | [_, _], _ => rfl, g_is_words⟩
  obtain ⟨fd_mixed, F_mixed, g_mixed⟩ := def_at c X G 20 rfl rfl
  have d_mixed : D_mixed K mg _ fd_mixed := ⟨F_mixed, F_mixed.binds fun _ _ _ _ _ _ us hl => match us, hl with | [_, _], _ => rfl, g_mixed⟩
  obtain ⟨fd_order_of, F_order_of, g_order_of⟩ := def_at c X G 21 rfl rfl
  have d_order_of : D_order_of K mg _ fd_order_of := ⟨F_order_of, F_order_of.binds fun _ _ _ _ _ _ us hl => match us, hl with | [_, _, _], _ => rfl, g_order_of⟩
  obtain ⟨fd_law_taken, F_law_taken, g_law_taken⟩ := def_at c X G 22 rfl rfl
  have d_law_taken : D_law_taken K mg _ fd_law_taken := ⟨F_law_taken, F_law_taken.binds fun _ _ _ _ _ _ us hl => match us, hl with | [_, _], _ => rfl, g_law_taken⟩
  obtain ⟨fd_law_pick, F_law_pick, g_law_pick⟩ := def_at c X G 23 rfl rfl
  have d_law_pick : D_law_pick K mg _ fd_law_pick := ⟨F_law_pick, F_law_pick.binds fun _ _ _ _ _ _ us hl => match us, hl with | [_, _], _ => rfl, g_law_pick⟩
  obtain ⟨fd_law_nest, F_law_nest, g_law_nest⟩ := def_at c X G 24 rfl rfl
  have d_law_nest : D_law_nest K mg _ fd_law_nest := ⟨F_law_nest, F_law_nest.binds fun _ _ _ _ _ _ us hl => match us, hl with | [_, _], _ => rfl, g_law_nest⟩
  obtain ⟨fd_law_insides, F_law_insides, g_law_insides⟩ := def_at c X G 25 rfl rfl
  have d_law_insides : D_law_insides K mg _ fd_law_insides := ⟨F_law_insides, F_law_insides.binds fun _ _ _ _ _ _ us hl => match us, hl with | [_], _ => rfl, g_law_insides⟩
  obtain ⟨fd_law_orders, F_law_orders, g_law_orders⟩ := def_at c X G 26 rfl rfl
  have d_law_orders : D_law_orders K mg _ fd_law_orders := ⟨F_law_orders, F_law_orders.binds fun _ _ _ _ _ _ us hl => match us, hl with | [_], _ => rfl, g_law_orders⟩
  obtain ⟨fd_law_ranks, F_law_ranks, g_law_ranks⟩ := def_at c X G 27 rfl rfl
  have d_law_ranks : D_law_ranks K mg _ fd_law_ranks := ⟨F_law_ranks, F_law_ranks.binds fun _ _ _ _ _ _ us hl => match us, hl with | [_, _], _ => rfl, g_law_ranks⟩
  obtain ⟨fd_law, F_law, g_law⟩ := def_at c X G 28 rfl rfl
  have d_law : D_law K mg _ fd_law := ⟨F_law, F_law.binds fun _ _ _ _ _ _ us hl => match us, hl with | [_], _ => rfl, g_law⟩
  obtain ⟨tk, most⟩ := He.int_ok X G (c.fact 40 (f := .int "MOST_DOORS" 9) rfl)
  have T : Top mg tk := ⟨He.free_ok X G (c.fact 29 rfl), He.free_ok X G (c.fact 30 rfl), He.free_ok X G (c.fact 31 rfl), He.free_ok X G (c.fact 32 rfl), He.free_ok X G (c.fact 33 rfl), He.free_ok X G (c.fact 34 rfl), He.free_ok X G (c.fact 35 rfl), He.free_ok X G (c.fact 36 rfl),
    He.free_ok X G (c.fact 37 rfl), He.free_ok X G (c.fact 38 rfl), He.free_ok X G (c.fact 39 rfl), most⟩
  have e := hfa.symm.trans g_law
  cases e
  obtain ⟨fdl, Fl⟩ := c.def_ 28 (d := hd "law" 40) rfl
  have b := FunD.bindsA (ps := ["_law_script"]) Fl fun _ _ _ _ _ _ us hl => match us, hl with | [_], _ => rfl
  refine ⟨fdl, fun s v => b s [v] rfl, fun base _ _ => ?_⟩
  have F2 : Fun K "law" "law" (topS 40) (He.ga K "law") fdl := fun_of (x := "law") (i := 40) Fl
  have d_main : D_law K mg _ fdl := ⟨F2, F2.binds fun _ _ _ _ _ _ us hl => match us, hl with | [_], _ => rfl, g_law⟩
  have G_is_in := ok_is_in (P := P) (w := w) (base := base) d_is_in T
  have G_need_nest := ok_need_nest (P := P) (w := w) (base := base) d_need_nest T d_is_in
  have G_around_in := ok_around_in (P := P) (w := w) (base := base) d_around_in
  have G_inside_in := ok_inside_in (P := P) (w := w) (base := base) d_inside_in T d_around_in
  have G_sizes_in := ok_sizes_in (P := P) (w := w) (base := base) d_sizes_in T
  have G_mixings_in := ok_mixings_in (P := P) (w := w) (base := base) d_mixings_in T d_product d_sizes_in
  have G_mixings := ok_mixings (P := P) (w := w) (base := base) d_mixings G_need_nest d_need_nest G_mixings_in d_mixings_in
  have G_is_order := ok_is_order (P := P) (w := w) (base := base) d_is_order T d_is_in
  have G_need_order := ok_need_order (P := P) (w := w) (base := base) d_need_order G_is_order d_is_order
  have G_rank_in := ok_rank_in (P := P) (w := w) (base := base) d_rank_in T G_inside_in d_inside_in
  have G_ranks_in := ok_ranks_in (P := P) (w := w) (base := base) d_ranks_in T G_rank_in d_rank_in
  have G_ranks := ok_ranks (P := P) (w := w) (base := base) d_ranks G_need_nest d_need_nest G_need_order d_need_order G_ranks_in d_ranks_in
  have G_is_ranks := ok_is_ranks (P := P) (w := w) (base := base) d_is_ranks T G_is_in d_is_in G_sizes_in d_sizes_in
  have G_room_of := ok_room_of (P := P) (w := w) (base := base) d_room_of G_around_in d_around_in
  have G_rooms := ok_rooms (P := P) (w := w) (base := base) d_rooms T
  have G_within := ok_within (P := P) (w := w) (base := base) d_within T G_inside_in d_inside_in
  have G_words_of := ok_words_of (P := P) (w := w) (base := base) d_words_of T G_need_nest d_need_nest G_need_order d_need_order G_rooms d_rooms G_within d_within G_room_of d_room_of
  have G_is_word := ok_is_word (P := P) (w := w) (base := base) d_is_word T G_is_in d_is_in G_sizes_in d_sizes_in
  have G_is_words := ok_is_words (P := P) (w := w) (base := base) d_is_words T G_rooms d_rooms G_is_word d_is_word
  have G_mixed := ok_mixed (P := P) (w := w) (base := base) d_mixed T
  have G_order_of := ok_order_of (P := P) (w := w) (base := base) d_order_of T G_need_nest d_need_nest G_is_ranks d_is_ranks G_is_words d_is_words G_mixed d_mixed
  have G_taken := ok_law_taken (P := P) (w := w) (base := base) d_law_taken T
  have G_pick := ok_law_pick (P := P) (w := w) (base := base) d_law_pick T G_taken d_law_taken
  have G_nest := ok_law_nest (P := P) (w := w) (base := base) d_law_nest T G_taken d_law_taken G_pick d_law_pick
  have G_insides := ok_law_insides (P := P) (w := w) (base := base) d_law_insides T
  have G_orders := ok_law_orders (P := P) (w := w) (base := base) d_law_orders T
  have G_lranks := ok_law_ranks (P := P) (w := w) (base := base) d_law_ranks T
  exact ok_law d_main T G_nest d_law_nest G_insides d_law_insides G_orders d_law_orders G_lranks d_law_ranks G_words_of d_words_of G_order_of d_order_of G_mixings d_mixings G_pick d_law_pick G_ranks d_ranks
end
end CD
open PySem PySem.W PySem.Calls PyProof.Rows
theorem PySem.Challenge.cw_countdoors_k80_whole_codes_of_orders_holds : PySem.Challenge.rw_countdoors_k80_whole_codes_of_orders.Holds := by
  w_on; o_law
  refine HandSHeadRun.head_any (r := OpenLaw.row PySem.Challenge.rw_countdoors_k80_whole_codes_of_orders) (q := view (OpenLaw.row PySem.Challenge.rw_countdoors_k80_whole_codes_of_orders).prog [40]) (H := CD.hkD) (ob := CD.obD) (M := 6000) (loose := CD.looseD)
    (d := HandSHeadRun.topDef (OpenLaw.row PySem.Challenge.rw_countdoors_k80_whole_codes_of_orders).prog 40) (kwd := []) CD.obD_eq (by kernel_rfl) (fun s => by kernel_rfl) CD.runD (by kernel_rfl) (by kernel_rfl) (by kernel_rfl) (by rfl) (by first | assumption | decide +kernel) (by decide +kernel)
    ⟨rfl, rfl, rfl, rfl, rfl, by decide +kernel⟩ ?hw ?hc
  case hw => w_witness2
  case hc =>
    refine L2.walk_ofE (l := PySem.Challenge.rw_countdoors_k80_whole_codes_of_orders) (n := 63) (k := 6) (x := "_law_script") (CX := L2.CX0) rfl (by decide) (by kernel_rfl) ⟨rfl, by decide, by decide⟩ ?F (fun _ _ _ _ z => z)
    intro w mg fa h Y G hmg0
    obtain ⟨K, KX, c⟩ := Y
    have hmg : mg ("law" : PySem.Str) = some (.ref fa) := by
      have e : (HandSHeadRun.topDef (OpenLaw.row PySem.Challenge.rw_countdoors_k80_whole_codes_of_orders).prog 40).name = ("law" : PySem.Str) := by kernel_rfl
      rw [← e]
      exact hmg0
    obtain ⟨fd, hb, hF⟩ := CD.facts (P := (PySem.Challenge.rw_countdoors_k80_whole_codes_of_orders).prog) (w := w) KX G hmg c
    exact ⟨K, fd, CD.spLaw K, KX, hb, fun H a ns hl _ hS => ⟨a, ns, rfl, hS, fun _ => rfl⟩, hF⟩

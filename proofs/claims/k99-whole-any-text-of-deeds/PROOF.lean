import PyProof.Rows.All
import Wide.All
import OpenK.AllK
import Wide.FinOn
import HandS.Text
import HandS.List
import KE.IntTextLaws
import HandS.ForMost
import HandS.Deep
import HandS.Walk
import HandS.IsInst
import HandS.WrittenGet
import HandS.ExcInit
import HandS.ExcField
import HandS.ExcIs
import HandS.HotCalls
import KE.KExcIs
import KE.KStrBytes
import PySem.Challenge.RW_nochaingains_k99_whole_any_text_of_deeds
/-! K99M -/
set_option Elab.async false
set_option linter.all false
set_option maxRecDepth 100000
/-! The plain law: what a text of deeds is worth, in plain Lean, and what is true of it. -/
namespace K99
open PySem TL

/-! ### lists cut at a mark -/
section
variable {α : Type} [DecidableEq α]
def cutA (m : α) : List α → List α → List (List α)
  | l, [] => [l]
  | l, w :: r => if w = m then l :: cutA m [] r else cutA m (l ++ [w]) r
def cut (m : α) (ws : List α) : List (List α) := cutA m [] ws
theorem cutA_nil (m : α) (l : List α) : cutA m l [] = [l] := rfl
theorem cutA_hit (m : α) (l r : List α) : cutA m l (m :: r) = l :: cutA m [] r := by
  show (if m = m then _ else _) = _
  rw [if_pos rfl]
theorem cutA_miss {m w : α} (h : w ≠ m) (l r : List α) : cutA m l (w :: r) = cutA m (l ++ [w]) r := by
  show (if w = m then _ else _) = _
  rw [if_neg h]
theorem cutA_ne (m : α) : ∀ (ws l : List α), cutA m l ws ≠ []
  | [], l => by simp [cutA]
  | w :: r, l => by
    by_cases h : w = m
    · subst h
      rw [cutA_hit]
      simp
    · rw [cutA_miss h]
      exact cutA_ne m r _
theorem cutA_free {m : α} : ∀ {p : List α} (l : List α), m ∉ p → cutA m l p = [l ++ p]
  | [], l, _ => by rw [cutA_nil, List.append_nil]
  | w :: r, l, h => by
    have h1 : w ≠ m := fun e => h (by rw [e]; exact List.mem_cons_self)
    rw [cutA_miss h1, cutA_free _ fun z => h (List.mem_cons_of_mem _ z), List.append_assoc]
    rfl
theorem cutA_part {m : α} : ∀ {p : List α} (l r : List α), m ∉ p → cutA m l (p ++ m :: r) = (l ++ p) :: cutA m [] r
  | [], l, r, _ => by rw [List.nil_append, cutA_hit, List.append_nil]
  | w :: p, l, r, h => by
    have h1 : w ≠ m := fun e => h (by rw [e]; exact List.mem_cons_self)
    rw [List.cons_append, cutA_miss h1, cutA_part _ _ fun z => h (List.mem_cons_of_mem _ z), List.append_assoc]
    rfl
theorem cutA_count (m : α) : ∀ (ws l : List α), (cutA m l ws).length = ws.count m + 1
  | [], l => rfl
  | w :: r, l => by
    by_cases h : w = m
    · subst h
      rw [cutA_hit, List.length_cons, cutA_count w r, List.count_cons_self]
    · rw [cutA_miss h, cutA_count m r, List.count_cons_of_ne (by exact h)]
theorem cut_length (m : α) (ws : List α) : (cut m ws).length = ws.count m + 1 := cutA_count m ws []
/-- the parts, each with the mark behind it -/
theorem cutA_back (m : α) : ∀ (ws l : List α), (cutA m l ws).flatMap (fun p => p ++ [m]) = l ++ ws ++ [m]
  | [], l => by simp [cutA]
  | w :: r, l => by
    by_cases h : w = m
    · subst h
      rw [cutA_hit, List.flatMap_cons, cutA_back w r []]
      simp
    · rw [cutA_miss h, cutA_back m r]
      simp
theorem cutA_mem (m : α) : ∀ (ws l : List α), m ∉ l → ∀ p ∈ cutA m l ws, m ∉ p ∧ ∀ w ∈ p, w ∈ l ∨ w ∈ ws
  | [], l, hl, p, hp => by
    rw [cutA_nil, List.mem_singleton] at hp
    subst hp
    exact ⟨hl, fun w hw => .inl hw⟩
  | w :: r, l, hl, p, hp => by
    by_cases h : w = m
    · subst h
      rw [cutA_hit] at hp
      rcases List.mem_cons.mp hp with rfl | hp
      · exact ⟨hl, fun x hx => .inl hx⟩
      · obtain ⟨a, b⟩ := cutA_mem w r [] (by simp) p hp
        refine ⟨a, fun x hx => ?_⟩
        rcases b x hx with z | z
        · simp at z
        · exact .inr (List.mem_cons_of_mem _ z)
    · rw [cutA_miss h] at hp
      obtain ⟨a, b⟩ := cutA_mem m r (l ++ [w]) (by simp [hl, Ne.symm h]) p hp
      refine ⟨a, fun x hx => ?_⟩
      rcases b x hx with z | z
      · rcases List.mem_append.mp z with z | z
        · exact .inl z
        · rw [List.mem_singleton.mp z]
          exact .inr List.mem_cons_self
      · exact .inr (List.mem_cons_of_mem _ z)
theorem cut_mem {m : α} {ws p : List α} (h : p ∈ cut m ws) : m ∉ p ∧ ∀ w ∈ p, w ∈ ws := by
  obtain ⟨a, b⟩ := cutA_mem m ws [] (by simp) p h
  refine ⟨a, fun w hw => ?_⟩
  rcases b w hw with z | z
  · simp at z
  · exact z
theorem cut_len {m : α} {ws p : List α} (h : p ∈ cut m ws) : p.length ≤ ws.length := by
  have e := congrArg List.length (cutA_back m ws [])
  rw [List.length_flatMap] at e
  have le : ∀ (L : List (List α)), p ∈ L → p.length + 1 ≤ (L.map fun q => (q ++ [m]).length).sum := by
    intro L
    induction L with
    | nil => intro z; simp at z
    | cons q L ih =>
      intro z
      rw [List.map_cons, List.sum_cons]
      rcases List.mem_cons.mp z with rfl | z
      · simp
      · have := ih z
        omega
  have := le (cutA m [] ws) h
  rw [e] at this
  simp at this
  omega
/-- one more mark behind -/
theorem cutA_snoc (m : α) : ∀ (ws l : List α), cutA m l (ws ++ [m]) = cutA m l ws ++ [[]]
  | [], l => by rw [List.nil_append, cutA_hit, cutA_nil, cutA_nil]; rfl
  | w :: r, l => by
    by_cases h : w = m
    · subst h
      rw [List.cons_append, cutA_hit, cutA_hit, cutA_snoc w r, List.cons_append]
    · rw [List.cons_append, cutA_miss h, cutA_miss h, cutA_snoc m r]
theorem cut_lines (m : α) : ∀ (ls : List (List α)), (∀ p ∈ ls, m ∉ p) → cut m (ls.flatMap fun p => p ++ [m]) = ls ++ [[]]
  | [], _ => rfl
  | p :: r, h => by
    have e : (p :: r).flatMap (fun p => p ++ [m]) = p ++ m :: r.flatMap (fun p => p ++ [m]) := by
      rw [List.flatMap_cons, List.append_assoc]
      rfl
    rw [e]
    show cutA m [] _ = _
    rw [cutA_part [] _ (h p List.mem_cons_self), List.nil_append]
    have ih := cut_lines m r fun q hq => h q (List.mem_cons_of_mem _ hq)
    show p :: cut m _ = _
    rw [ih, List.cons_append]
/-- one turn of a loop that cuts -/
def cstep (m : α) (acc : List (List α)) (w : α) : List (List α) := if w = m then acc ++ [[]] else acc.dropLast ++ [acc.getLastD [] ++ [w]]
theorem fold_cut (m : α) : ∀ (ws l : List α) (A : List (List α)), ws.foldl (cstep m) (A ++ [l]) = A ++ cutA m l ws
  | [], l, A => rfl
  | w :: r, l, A => by
    rw [List.foldl_cons]
    by_cases h : w = m
    · subst h
      have e : cstep w (A ++ [l]) w = (A ++ [l]) ++ [[]] := if_pos rfl
      rw [e, fold_cut w r [] (A ++ [l]), cutA_hit, List.append_assoc]
      rfl
    · have e : cstep m (A ++ [l]) w = A ++ [l ++ [w]] := by
        unfold cstep
        rw [if_neg h, List.dropLast_concat]
        simp
      rw [e, fold_cut m r, cutA_miss h]
theorem cut_fold (m : α) (ws : List α) : cut m ws = ws.foldl (cstep m) [[]] := (fold_cut m ws [] []).symm
theorem idx_split {m : α} : ∀ {ws : List α}, m ∈ ws → m ∉ ws.take (ws.idxOf m) ∧ ws = ws.take (ws.idxOf m) ++ m :: ws.drop (ws.idxOf m + 1)
  | [], h => by simp at h
  | w :: r, h => by
    by_cases e : w = m
    · subst e
      simp
    · have hm : m ∈ r := (List.mem_cons.mp h).elim (fun z => absurd z.symm e) id
      obtain ⟨a, b⟩ := idx_split hm
      have q : (w :: r).idxOf m = r.idxOf m + 1 := by
        have eb : (w == m) = false := beq_eq_false_iff_ne.mpr e
        rw [List.idxOf_cons, eb]
        rfl
      rw [q]
      refine ⟨?_, ?_⟩
      · rw [List.take_succ_cons]
        intro z
        rcases List.mem_cons.mp z with z | z
        · exact e z.symm
        · exact a z
      · rw [List.take_succ_cons, List.drop_succ_cons, List.cons_append, ← b]
theorem cut_at {m : α} {ws : List α} (h : m ∈ ws) : cut m ws = ws.take (ws.idxOf m) :: cut m (ws.drop (ws.idxOf m + 1)) := by
  obtain ⟨a, b⟩ := idx_split h
  conv => lhs; rw [b]
  show cutA m [] _ = _
  rw [cutA_part [] _ a, List.nil_append]
  rfl
theorem cut_none {m : α} {ws : List α} (h : m ∉ ws) : cut m ws = [ws] := by
  show cutA m [] ws = _
  rw [cutA_free [] h, List.nil_append]
end

/-! ### numbers -/
def dig (c : Nat) : Bool := decide (48 ≤ c) && decide (c ≤ 57)
def dgs (l : List Nat) : List Nat := if l.take 1 = [45] then l.drop 1 else l
def isInt (w : Str) : Bool := (dgs (tl w)).all dig && !(dgs (tl w)).isEmpty && decide ((dgs (tl w)).length ≤ 60) && (!decide ((dgs (tl w)).head? = some 48) || decide (tl w = [48]))
def intOf (w : Str) : Int := (PySem.intText? w).getD 0
theorem all_dig {l : List Nat} (h : l.all dig = true) : NumText.AllDigits l := fun c hc => by
  have := List.all_eq_true.mp h c hc
  simp [dig] at this
  exact this
theorem isInt_val {w : Str} (h : isInt w = true) : PySem.intText? w = some (intOf w) ∧ w.length ≤ 61 := by
  unfold isInt at h
  rw [Bool.and_eq_true, Bool.and_eq_true, Bool.and_eq_true] at h
  obtain ⟨⟨⟨h1, h2⟩, h3⟩, _⟩ := h
  have h3 := of_decide_eq_true h3
  have ha := all_dig h1
  have hne : dgs (tl w) ≠ [] := by
    intro e
    rw [e] at h2
    simp at h2
  have key : (∃ n, PySem.intText? w = some n) ∧ w.length ≤ 61 := by
    unfold dgs at ha hne h3
    by_cases hm : (tl w).take 1 = [45]
    · rw [if_pos hm] at ha hne h3
      have e : tl w = 45 :: (tl w).drop 1 := by
        have := List.take_append_drop 1 (tl w)
        rw [hm] at this
        exact this.symm
      have hl : w.length ≤ 61 := by
        rw [len_tl, e, List.length_cons]
        omega
      exact ⟨⟨_, PySem.intText_neg (x := w) e ha hne (by omega)⟩, hl⟩
    · rw [if_neg hm] at ha hne h3
      have hl : w.length ≤ 60 := by
        rw [len_tl]
        exact h3
      exact ⟨⟨_, PySem.intText_digits (x := w) ha hne (by omega)⟩, by omega⟩
  obtain ⟨⟨n, e⟩, hl⟩ := key
  refine ⟨?_, hl⟩
  unfold intOf
  rw [e]
  rfl
def nums (ws : List Str) : Option (List Int) := if ws.all isInt = true then some (ws.map intOf) else none
theorem nums_some {ws : List Str} {ns : List Int} (h : nums ws = some ns) : (∀ w ∈ ws, isInt w = true) ∧ ns = ws.map intOf ∧ ns.length = ws.length := by
  unfold nums at h
  by_cases c : ws.all isInt = true
  · rw [if_pos c] at h
    have e := Option.some.inj h
    subst e
    exact ⟨List.all_eq_true.mp c, rfl, by rw [List.length_map]⟩
  · rw [if_neg c] at h
    cases h
theorem nums_ok {ws : List Str} (h : ws.all isInt = true) : nums ws = some (ws.map intOf) := if_pos h
theorem nums_no {ws : List Str} (h : ¬ ws.all isInt = true) : nums ws = none := if_neg h

/-! ### data -/
def tupI (ns : List Int) : PyData := .tuple (ns.map .int)
def isN : PyData → Bool
  | .none => true
  | _ => false
def numsD : Option (List Int) → PyData
  | none => .none
  | some ns => tupI ns
def group (p : List Str) : Option (List Int × Int) :=
  if p.length < 3 ∨ p[1]? ≠ some ("of" : Str) then none else (nums (p.take 1 ++ p.drop 2)).map fun ns => (ns.tail, ns.headD 0)
def groups (ps : List (List Str)) : Option (List (List Int × Int)) := if ps.all (fun p => (group p).isSome) = true then some (ps.map fun p => (group p).getD ([], 0)) else none
def grpD (g : List Int × Int) : PyData := .tuple [tupI g.1, .int g.2]
def gsD (gs : List (List Int × Int)) : PyData := .tuple (gs.map grpD)
def both {α β : Type} : Option α → Option β → Option (α × β)
  | some a, some b => some (a, b)
  | _, _ => none
def side (ws : List Str) : Option (List Int × List (List Int × Int)) := both (nums ((cut ("cap" : Str) ws).headD [])) (groups (cut ("cap" : Str) ws).tail)
def sideD : Option (List Int × List (List Int × Int)) → PyData
  | none => .none
  | some (a, b) => .tuple [tupI a, gsD b]
def sideW (ws : List Str) : PyData := sideD (side ws)
def groupsD : Option (List (List Int × Int)) → PyData
  | none => .none
  | some b => gsD b
def parts3 (ws : List Str) : Option (List Str × List Str × List Str) :=
  if ws.count ("buys" : Str) = 1 ∧ ws.count ("sells" : Str) = 1 ∧ ws.idxOf ("buys" : Str) < ws.idxOf ("sells" : Str) then
    some (ws.take (ws.idxOf ("buys" : Str)), (ws.take (ws.idxOf ("sells" : Str))).drop (ws.idxOf ("buys" : Str) + 1), ws.drop (ws.idxOf ("sells" : Str) + 1))
  else none
def capsM (b c : List Str) : PyData :=
  match side b, side c with
  | some x, some y => .tuple [.str "caps", tupI x.1, gsD x.2, tupI y.1, gsD y.2]
  | _, _ => .none
def capsD (a b c : List Str) : PyData := if a ≠ [] then .none else capsM b c
def rowsD (kind : Str) (r p q : List Int) : PyData :=
  if r.length ≠ (if kind = ("trader" : Str) then 2 else 1) then .none else
  if kind = ("sides" : Str) then (if p = [] then .none else .tuple [.str kind, .int (r.headD 0), tupI p.dropLast, .int (p.getLastD 0), tupI q])
  else .tuple (.str kind :: (r.map .int ++ [tupI p, tupI q]))
def plainD (kind : Str) (a b c : List Str) : PyData :=
  match nums a, nums b, nums c with
  | some r, some p, some q => rowsD kind r p q
  | _, _, _ => .none
def wishD (kind : Str) (ws : List Str) : PyData :=
  match parts3 ws with
  | none => .none
  | some (a, b, c) => if kind = ("caps" : Str) then capsD a b c else plainD kind a b c
def tableD (ws : List Str) : PyData :=
  if (cut ("row" : Str) ws).headD [] ≠ [] then .none else
  if (cut ("row" : Str) ws).tail.all (fun p => (nums p).isSome && !p.isEmpty) = true then .tuple [.str "table", .tuple ((cut ("row" : Str) ws).tail.map fun p => tupI (p.map intOf))] else .none
def partD : List Str → PyData
  | [] => .none
  | k :: r => if k = ("table" : Str) then tableD r else if k = ("maker" : Str) ∨ k = ("sides" : Str) ∨ k = ("trader" : Str) ∨ k = ("caps" : Str) then wishD k r else .none
def splitD (ws : List Str) : PyData :=
  if (cut ("part" : Str) ws).headD [] ≠ [] then .none else
  if (cut ("part" : Str) ws).tail.all (fun p => !isN (partD p)) = true then .tuple [.str "split", .tuple ((cut ("part" : Str) ws).tail.map partD)] else .none
def choiceD (ws : List Str) : PyData := if ws.take 1 = [("split" : Str)] then splitD (ws.drop 1) else partD ws
def needs (k : Str) : Option Nat := if k = ("offer" : Str) then some 3 else if k = ("cancel" : Str) then some 1 else if k = ("undo" : Str) ∨ k = ("redo" : Str) then some 0 else none
def wordsD (ws : List Str) : PyData :=
  if ws.headD "" = ("choose" : Str) then
    (match nums ((ws.drop 1).take 1) with
     | some (h :: _) => if isN (choiceD (ws.drop 2)) = true then .none else .tuple [.str "choose", .int h, choiceD (ws.drop 2)]
     | _ => .none)
  else match nums (ws.drop 1) with
    | some ns => if needs (ws.headD "") = some ns.length then .tuple (.str (ws.headD "") :: ns.map .int) else .none
    | none => .none
def deedD (line : Str) : PyData := wordsD (Txt.split line " ")
def linesOf (x : Str) : List Str := Txt.split x "\n"
def badD (n : Nat) : PyData := .tuple [.str "bad", .int (n : Int)]
def readD (ds : List PyData) : PyData := .tuple [.str "read", .tuple ds]
def good (l : Str) : Bool := !isN (deedD l)
/-- the outcome of a row of lines -/
def dueD (ls : List Str) : PyData :=
  if ls.dropLast.all good = true then (if ls.getLastD "" = ("" : Str) then readD (ls.dropLast.map deedD) else badD ls.length)
  else badD ((ls.dropLast.takeWhile good).length + 1)
end K99

/-! K99N -/
set_option Elab.async false
set_option linter.all false
set_option maxRecDepth 100000
/-! More of the plain law: two ways to cut are one. -/
namespace K99
open PySem TL
theorem mem_cut {α : Type} [DecidableEq α] {m w : α} {ws : List α} (h : w ∈ ws) : w = m ∨ ∃ p ∈ cut m ws, w ∈ p := by
  have e := cutA_back m ws []
  have h2 : w ∈ (cutA m [] ws).flatMap (fun p => p ++ [m]) := by
    rw [e]
    simp [h]
  obtain ⟨p, hp, hw⟩ := List.mem_flatMap.mp h2
  rcases List.mem_append.mp hw with hw | hw
  · exact .inr ⟨p, hp, hw⟩
  · exact .inl (List.mem_singleton.mp hw)
theorem cut_cons_ht {α : Type} [DecidableEq α] (m : α) (ws : List α) : cut m ws = (cut m ws).headD [] :: (cut m ws).tail := by
  have h := cutA_ne m ws []
  cases e : cut m ws with
  | nil => exact absurd e h
  | cons a r => rfl
theorem int_buys : isInt ("buys" : Str) = false := by decide +kernel
theorem of_ne_buys : ("buys" : Str) ≠ "of" := by decide +kernel
theorem cap_ne_buys : ("buys" : Str) ≠ "cap" := by decide +kernel
theorem sells_ne_buys : ("sells" : Str) ≠ "buys" := by decide +kernel
theorem group_words {p : List Str} (h : (group p).isSome = true) : ∀ w ∈ p, isInt w = true ∨ w = ("of" : Str) := by
  unfold group at h
  by_cases c : p.length < 3 ∨ p[1]? ≠ some ("of" : Str)
  · rw [if_pos c] at h
    cases h
  · rw [if_neg c] at h
    have c2 : p[1]? = some ("of" : Str) := Classical.not_not.mp fun z => c (.inr z)
    cases hn : nums (p.take 1 ++ p.drop 2) with
    | none =>
      rw [hn] at h
      cases h
    | some ns =>
      have hall := (nums_some hn).1
      match p, c2, hall with
      | a :: b :: r, c2, hall =>
        have eb : b = ("of" : Str) := Option.some.inj c2
        intro w hw
        rcases List.mem_cons.mp hw with e | hw
        · exact .inl (hall w (by rw [e]; simp))
        · rcases List.mem_cons.mp hw with e | hw
          · exact .inr (e.trans eb)
          · exact .inl (hall w (List.mem_append_right _ hw))
theorem groups_some {ps : List (List Str)} {gs : List (List Int × Int)} (h : groups ps = some gs) : (∀ p ∈ ps, (group p).isSome = true) ∧ gs = ps.map fun p => (group p).getD ([], 0) := by
  unfold groups at h
  by_cases c : ps.all (fun p => (group p).isSome) = true
  · rw [if_pos c] at h
    exact ⟨List.all_eq_true.mp c, (Option.some.inj h).symm⟩
  · rw [if_neg c] at h
    cases h
theorem side_no {ws : List Str} (h : ("buys" : Str) ∈ ws) : side ws = none := by
  unfold side
  cases hn : nums ((cut ("cap" : Str) ws).headD []) with
  | none => rfl
  | some ns =>
    cases hg : groups (cut ("cap" : Str) ws).tail with
    | none => rfl
    | some gs =>
      exfalso
      rcases mem_cut (m := ("cap" : Str)) h with e | ⟨p, hp, hw⟩
      · exact cap_ne_buys e
      · rw [cut_cons_ht] at hp
        rcases List.mem_cons.mp hp with e | hp
        · have := (nums_some hn).1 _ (e ▸ hw)
          rw [int_buys] at this
          cases this
        · rcases group_words ((groups_some hg).1 p hp) _ hw with z | z
          · rw [int_buys] at z
            cases z
          · exact of_ne_buys z
/-- the program's read_side -/
theorem side_prog (ws : List Str) : (cut ("cap" : Str) ws).headD [] = ws.take (ws.idxOf ("cap" : Str)) ∧ (cut ("cap" : Str) (ws.drop (ws.idxOf ("cap" : Str)))).headD [] = [] ∧ (cut ("cap" : Str) (ws.drop (ws.idxOf ("cap" : Str)))).tail = (cut ("cap" : Str) ws).tail := by
  by_cases h : ("cap" : Str) ∈ ws
  · have e := cut_at h
    obtain ⟨_, b⟩ := idx_split h
    have hlt : ws.idxOf ("cap" : Str) < ws.length := List.idxOf_lt_length_of_mem h
    have ed : ws.drop (ws.idxOf ("cap" : Str)) = ("cap" : Str) :: ws.drop (ws.idxOf ("cap" : Str) + 1) := by
      rw [List.drop_eq_getElem_cons hlt, List.getElem_idxOf]
    have e2 : cut ("cap" : Str) (ws.drop (ws.idxOf ("cap" : Str))) = [] :: cut ("cap" : Str) (ws.drop (ws.idxOf ("cap" : Str) + 1)) := by
      rw [ed]
      exact cutA_hit _ _ _
    rw [e, e2]
    exact ⟨rfl, rfl, rfl⟩
  · have hi : ws.idxOf ("cap" : Str) = ws.length := List.idxOf_eq_length h
    rw [cut_none h, hi, List.drop_length, List.take_length]
    exact ⟨rfl, rfl, rfl⟩
theorem idx_ne {ws : List Str} (h1 : ("buys" : Str) ∈ ws) (h2 : ("sells" : Str) ∈ ws) : ws.idxOf ("buys" : Str) ≠ ws.idxOf ("sells" : Str) := by
  intro e
  have a := List.getElem_idxOf (List.idxOf_lt_length_of_mem h1)
  have b := List.getElem_idxOf (List.idxOf_lt_length_of_mem h2)
  have : ws[ws.idxOf ("buys" : Str)]'(List.idxOf_lt_length_of_mem h1) = ws[ws.idxOf ("sells" : Str)]'(List.idxOf_lt_length_of_mem h2) := by simp [e]
  rw [a, b] at this
  exact sells_ne_buys this.symm
theorem mem_of_count {ws : List Str} {m : Str} (h : ws.count m = 1) : m ∈ ws := List.count_pos_iff.mp (by omega)
/-- the program's read_caps -/
theorem caps_prog (ws : List Str) : wishD "caps" ws = if ws.take 1 = [("buys" : Str)] ∧ ws.count ("sells" : Str) = 1 then
    capsM ((ws.take (ws.idxOf ("sells" : Str))).drop 1) (ws.drop (ws.idxOf ("sells" : Str) + 1)) else .none := by
  unfold wishD
  by_cases h1 : ws.take 1 = [("buys" : Str)] ∧ ws.count ("sells" : Str) = 1
  · rw [if_pos h1]
    obtain ⟨h1, h2⟩ := h1
    obtain ⟨r, e⟩ : ∃ r, ws = ("buys" : Str) :: r := by
      cases ws with
      | nil => cases h1
      | cons x r =>
        rw [List.take_succ_cons, List.take_zero] at h1
        injection h1 with h1
        exact ⟨r, by rw [h1]⟩
    have hs := mem_of_count h2
    have ib : ws.idxOf ("buys" : Str) = 0 := by
      rw [e, List.idxOf_cons_self]
    have ipos : 0 < ws.idxOf ("sells" : Str) := by
      have := idx_ne (ws := ws) (by rw [e]; exact List.mem_cons_self) hs
      omega
    by_cases h3 : ws.count ("buys" : Str) = 1
    · have ep : parts3 ws = some ([], (ws.take (ws.idxOf ("sells" : Str))).drop 1, ws.drop (ws.idxOf ("sells" : Str) + 1)) := by
        unfold parts3
        rw [if_pos ⟨h3, h2, by omega⟩, ib]
        rfl
      rw [ep]
      show (if ("caps" : Str) = "caps" then capsD _ _ _ else _) = _
      rw [if_pos rfl]
      unfold capsD
      rw [if_neg (fun z => z rfl)]
    · have ep : parts3 ws = none := by
        unfold parts3
        rw [if_neg fun z => h3 z.1]
      rw [ep]
      show PyData.none = _
      have hc : 0 < r.count ("buys" : Str) := by
        rw [e, List.count_cons_self] at h3
        omega
      have hm : ("buys" : Str) ∈ r := List.count_pos_iff.mp hc
      have key : ("buys" : Str) ∈ (ws.take (ws.idxOf ("sells" : Str))).drop 1 ∨ ("buys" : Str) ∈ ws.drop (ws.idxOf ("sells" : Str) + 1) := by
        have hb := (idx_split hs).2
        obtain ⟨n, hn⟩ : ∃ n, ws.idxOf ("sells" : Str) = n + 1 := ⟨ws.idxOf ("sells" : Str) - 1, by omega⟩
        rw [hn] at hb ⊢
        have hr : r = r.take n ++ ("sells" : Str) :: ws.drop (n + 1 + 1) := by
          conv at hb => rhs; rw [e, List.take_succ_cons, List.cons_append]
          rw [← e] at hb
          rw [e] at hb
          injection hb with _ hb
          rw [e]
          exact hb
        rw [hr] at hm
        rcases List.mem_append.mp hm with z | z
        · left
          rw [e, List.take_succ_cons]
          exact z
        · rcases List.mem_cons.mp z with z | z
          · exact absurd z.symm sells_ne_buys
          · exact .inr z
      unfold capsM
      rcases key with z | z
      · rw [side_no z]
      · rw [side_no z]
        cases side ((ws.take (ws.idxOf ("sells" : Str))).drop 1) <;> rfl
  · rw [if_neg h1]
    cases ep : parts3 ws with
    | none => rfl
    | some t =>
      obtain ⟨a, b, c⟩ := t
      show (if ("caps" : Str) = "caps" then capsD _ _ _ else _) = _
      rw [if_pos rfl]
      unfold parts3 at ep
      by_cases c1 : ws.count ("buys" : Str) = 1 ∧ ws.count ("sells" : Str) = 1 ∧ ws.idxOf ("buys" : Str) < ws.idxOf ("sells" : Str)
      · rw [if_pos c1] at ep
        have ep := Option.some.inj ep
        have ea : ws.take (ws.idxOf ("buys" : Str)) = a := congrArg (·.1) ep
        unfold capsD
        have hb := mem_of_count c1.1
        rw [if_pos]
        intro z
        apply h1
        refine ⟨?_, c1.2.1⟩
        have i0 : ws.idxOf ("buys" : Str) = 0 := by
          have hl := congrArg List.length (ea.trans z)
          rw [List.length_take] at hl
          have := List.idxOf_lt_length_of_mem hb
          simp at hl
          rcases hl with hl | hl
          · exact hl
          · rw [hl] at hb
            cases hb
        have h2 := (idx_split hb).2
        rw [i0] at h2
        rw [h2]
        simp
      · rw [if_neg c1] at ep
        cases ep
/-! ### texts cut at a sign -/
theorem spl_cutA (s : Nat) : ∀ (l acc : List Nat), spl [s] 0 acc l = cutA s acc l
  | [], acc => by rw [spl_nil]; rfl
  | c :: r, acc => by
    by_cases h : c = s
    · subst h
      have hp : pre [c] (c :: r) = true := pre_self [c] r
      rw [spl_hit hp, cutA_hit]
      show acc :: spl [c] 0 [] r = _
      rw [spl_cutA c r]
    · rw [spl_miss (pre_of_head [] r h), cutA_miss h, spl_cutA s r]
theorem split_tl {x y : Str} {s : Nat} (hy : tl y = [s]) (hs : s < 256) : (Txt.split x y).map tl = cut s (tl x) := by
  have hk : y.cps.all (· < 256) = true := by
    rw [← Array.all_toList, show y.cps.toList = [s] from hy]
    simp [hs]
  rw [split_spl x y (by rw [hy]; simp) (kind_ok hk), hy]
  exact spl_cutA s (tl x) []
theorem tl_sp : tl (" " : Str) = [32] := by decide +kernel
theorem tl_nl : tl ("\n" : Str) = [10] := by decide +kernel
theorem split_mem {x y p : Str} {s : Nat} (hy : tl y = [s]) (hs : s < 256) (hp : p ∈ Txt.split x y) : p.length ≤ x.length ∧ (∀ c ∈ tl p, c ∈ tl x) ∧ s ∉ tl p := by
  have hm : tl p ∈ cut s (tl x) := by
    rw [← split_tl hy hs]
    exact List.mem_map_of_mem hp
  refine ⟨?_, (cut_mem hm).2, (cut_mem hm).1⟩
  rw [len_tl, len_tl]
  exact cut_len hm
theorem split_few {x y : Str} {s : Nat} (hy : tl y = [s]) (hs : s < 256) : (Txt.split x y).length ≤ x.length + 1 := by
  have e := congrArg List.length (split_tl (x := x) hy hs)
  rw [List.length_map, cut_length] at e
  have := List.count_le_length (a := s) (l := tl x)
  rw [len_tl]
  omega
theorem split_ne {x y : Str} {s : Nat} (hy : tl y = [s]) (hs : s < 256) : Txt.split x y ≠ [] := fun e => by
  have h := split_tl (x := x) hy hs
  rw [e] at h
  exact cutA_ne s (tl x) [] h.symm
end K99

/-! K99O -/
set_option Elab.async false
set_option linter.all false
set_option maxRecDepth 100000
namespace K99
open PySem TL
/-- cut in two -/
theorem cut_two {α : Type} [DecidableEq α] {m : α} {ws : List α} (h : ws.count m = 1) : cut m ws = [ws.take (ws.idxOf m), ws.drop (ws.idxOf m + 1)] ∧ m ∉ ws.take (ws.idxOf m) ∧ m ∉ ws.drop (ws.idxOf m + 1) := by
  have hm : m ∈ ws := List.count_pos_iff.mp (by omega)
  obtain ⟨a, b⟩ := idx_split hm
  have hc := congrArg (List.count m) b
  rw [List.count_append, List.count_cons_self, h] at hc
  have hd : m ∉ ws.drop (ws.idxOf m + 1) := fun z => by
    have := List.count_pos_iff.mpr z
    omega
  refine ⟨?_, a, hd⟩
  rw [cut_at hm, cut_none hd]
theorem idx_take {α : Type} [DecidableEq α] {m : α} : ∀ {ws : List α} {i : Nat}, m ∈ ws.take i → (ws.take i).idxOf m = ws.idxOf m ∧ ws.idxOf m < i
  | [], i, h => by simp at h
  | w :: r, 0, h => by simp at h
  | w :: r, i + 1, h => by
    rw [List.take_succ_cons] at h ⊢
    by_cases e : w = m
    · subst e
      rw [List.idxOf_cons_self, List.idxOf_cons_self]
      exact ⟨rfl, by omega⟩
    · have hm : m ∈ r.take i := (List.mem_cons.mp h).elim (fun z => absurd z.symm e) id
      obtain ⟨a, b⟩ := idx_take hm
      have eb : (w == m) = false := beq_eq_false_iff_ne.mpr e
      rw [List.idxOf_cons, List.idxOf_cons, eb]
      refine ⟨?_, ?_⟩
      · show (r.take i).idxOf m + 1 = r.idxOf m + 1
        rw [a]
      · show r.idxOf m + 1 < i + 1
        omega
theorem mem_take_of_idx {α : Type} [DecidableEq α] {m : α} {ws : List α} {i : Nat} (h : m ∈ ws) (hi : ws.idxOf m < i) : m ∈ ws.take i := by
  have hlt := List.idxOf_lt_length_of_mem h
  refine List.mem_of_getElem? (i := ws.idxOf m) ?_
  rw [List.getElem?_take_of_lt hi, List.getElem?_eq_getElem hlt, List.getElem_idxOf]
/-- the law's way to find the three rows -/
theorem wish_law (ws : List Str) : (∀ s0 s1 b0 b1 : List Str, cut ("sells" : Str) ws = [s0, s1] → cut ("buys" : Str) s0 = [b0, b1] → ("buys" : Str) ∉ s1 → parts3 ws = some (b0, b1, s1)) ∧
    (((cut ("sells" : Str) ws).length ≠ 2 ∨ (cut ("buys" : Str) ((cut ("sells" : Str) ws).headD [])).length ≠ 2 ∨ ("buys" : Str) ∈ (cut ("sells" : Str) ws).getD 1 []) → parts3 ws = none) := by
  have hne : ("sells" : Str) ≠ "buys" := sells_ne_buys
  constructor
  · intro s0 s1 b0 b1 h1 h2 h3
    have c1 : ws.count ("sells" : Str) = 1 := by
      have := cut_length ("sells" : Str) ws
      rw [h1] at this
      simp at this
      omega
    have c2 : s0.count ("buys" : Str) = 1 := by
      have := cut_length ("buys" : Str) s0
      rw [h2] at this
      simp at this
      omega
    obtain ⟨e1, _, _⟩ := cut_two c1
    rw [h1] at e1
    injection e1 with e1 e1'
    injection e1' with e1' _
    obtain ⟨e2, _, _⟩ := cut_two c2
    rw [h2] at e2
    injection e2 with e2 e2'
    injection e2' with e2' _
    have hb := (idx_split (mem_of_count c1)).2
    rw [← e1, ← e1'] at hb
    have c3 : ws.count ("buys" : Str) = 1 := by
      rw [hb, List.count_append, List.count_cons_of_ne hne, c2, List.count_eq_zero_of_not_mem h3]
    have hm0 : ("buys" : Str) ∈ ws.take (ws.idxOf ("sells" : Str)) := by
      rw [← e1]
      exact mem_of_count c2
    obtain ⟨i1, i2⟩ := idx_take hm0
    unfold parts3
    rw [if_pos ⟨c3, c1, i2⟩, ← e1']
    rw [← e1] at i1
    rw [i1] at e2 e2'
    congr 2
    · rw [e2, e1, List.take_take, Nat.min_eq_left (by omega)]
    · rw [e2', e1]
  · intro h
    unfold parts3
    rw [if_neg]
    rintro ⟨c1, c2, c3⟩
    obtain ⟨e1, n1, n2⟩ := cut_two c2
    have hm0 := mem_take_of_idx (mem_of_count c1) c3
    have hb := (idx_split (mem_of_count c2)).2
    have hc := congrArg (List.count ("buys" : Str)) hb
    rw [List.count_append, List.count_cons_of_ne hne, c1] at hc
    have p0 := List.count_pos_iff.mpr hm0
    rcases h with h | h | h
    · rw [cut_length] at h
      omega
    · rw [e1, cut_length] at h
      have h : (ws.take (ws.idxOf ("sells" : Str))).count ("buys" : Str) + 1 ≠ 2 := h
      omega
    · rw [e1] at h
      have h : ("buys" : Str) ∈ ws.drop (ws.idxOf ("sells" : Str) + 1) := h
      have := List.count_pos_iff.mpr h
      omega
end K99

/-! K99B -/
set_option Elab.async false
set_option linter.all false
set_option maxRecDepth 100000
/-! Short words over the hand layer: defs by name, data in tuples, walks that make lists. -/
namespace K99
open PySem L2
open PyProof.Rows (envOfC)

def top (i : Nat) : Stmt := PySem.Challenge.pw_nochaingains_k99_whole_any_text_of_deeds.main.body.getD i (.Pass ⟨0, 0, 0, 0⟩)

/-! ### room -/
theorem hu65 {A : Around} {k : Nat} (hr : Room k A) : A.units + 65 < cLine := by
  have := hr.un
  omega
theorem hu64 {A : Around} {k : Nat} (hr : Room k A) : A.units + 64 < cLine := by
  have := hr.un
  omega

/-! ### defs by name -/
/-- the def st stands under the name x -/
structure Src (K : PySem.W.Frag) (mg : Str → Option Value) (x : Str) (st : Stmt) (ps : List Str) : Prop where
  ex : ∃ (f : Addr) (fd : FuncData), mg x = some (.ref f) ∧ Fun K x x st f fd ∧ Binds K fd ps []
/-- the def under the name x keeps the promise sp -/
structure Has (P : Program) (w : World) (K : PySem.W.Frag) (mg : Str → Option Value) (base : Heap) (x : Str) (ps : List Str) (k : Nat) (sp : Sp) : Prop where
  ex : ∃ (f : Addr) (fd : FuncData), mg x = some (.ref f) ∧ PySem.W.keepIn K (.ref f) = true ∧ Binds K fd ps [] ∧ FnOk P w K mg base CX0 k f fd ps sp
section
variable {P : Program} {w : World} {K : PySem.W.Frag} {mg : Str → Option Value} {base : Heap}
theorem Src.has {x : Str} {st : Stmt} {N ps : List Str} {k : Nat} {sp : Sp} (S : Src K mg x st ps) (sc : FnScope N ps (defScope st)) (len : ∀ vs H Q E, sp vs H Q E → vs.length = ps.length)
    (hb : ∀ (f : Addr) (cdv : Value) (A : Around) (outer : List Env) (s : Shared) (H : Hp) (vs : List V) (Q : VK) (E : XK), Room k (A.deeper (envOfC x (defScope st) s.heap.objs.size f cdv)) → sp vs H Q E →
      ∃ t, PSs (cxOf CX0 P w K mg base N x (defScope st) f cdv A outer s H E).nox (defBody st) t ∧ t { nx := fun _ H' => Q .non H', rt := Q } (start N vs) H) : Has P w K mg base x ps (k + 1) sp := by
  obtain ⟨f, fd, h1, F, h2⟩ := S.ex
  exact ⟨f, fd, h1, F.kp, h2, F.ok sc len fun cdv A outer s H vs Q E hr h => hb f cdv A outer s H vs Q E hr h⟩
end
section
variable {X : Cx} {x : Str} {ps : List Str} {k : Nat} {sp : Sp} {e : Expr} {es : List Expr} {t : TA} {q pos : Pos}
theorem pe_has (h : Has X.prog X.w X.K X.mg X.base x ps k sp) (hr : Room k X.A) (ha : PA X (e :: es) t) (hg : Gl X x := by rfl) (hd : (x == ("__debug__" : Str)) = false := by decide)
    (he : starEach (e :: es) X.env = (false, eval e X.env) :: starEach es X.env := by rfl) (hpl : (backTo pos (starEach es X.env)).any (·.1) = false := by rfl) : PE X (.Call (.Name x q) (e :: es) [] pos) (tCall sp [] E0 t) := by
  obtain ⟨f, fd, h1, h2, h3, F⟩ := h.ex
  exact pe_call F hr hg h1 h2 h3 .nil pass0 ha hd he hpl
theorem pe_has0 (h : Has X.prog X.w X.K X.mg X.base x ps k sp) (hr : Room k X.A) (hg : Gl X x := by rfl) (hd : (x == ("__debug__" : Str)) = false := by decide) : PE X (.Call (.Name x q) [] [] pos) (tCall sp [] E0 tNil) := by
  obtain ⟨f, fd, h1, h2, h3, F⟩ := h.ex
  exact pe_call0 F hr hg h1 h2 h3 .nil pass0 hd
/-- a name of the module -/
theorem pe_globE {v : V} (h : ∃ u, X.mg x = some u ∧ RelV v u) (hg : Gl X x := by rfl) (hd : (x == ("__debug__" : Str)) = false := by decide) : PE X (.Name x pos) (tC v) := by
  obtain ⟨u, h1, h2⟩ := h
  exact pe_glob hg h1 h2 hd
end

/-! ### heaps -/
theorem same_new {H : Hp} {p : Addr} {o : HO} (h : H p = none) : Same H (upd H p o) := fun b u e => by
  rw [upd_ne (ne_of_none e h)]
  exact e
theorem same_own {H0 H : Hp} {p : Addr} {o : HO} (s : Same H0 H) (h : H0 p = none) : Same H0 (upd H p o) := fun b u e => by
  rw [upd_ne (ne_of_none e h)]
  exact s b u e
/-- the tuples stand -/
def Tle (H H' : Hp) : Prop := ∀ b xs, H b = some (.tup xs) → H' b = some (.tup xs)
theorem Tle.of {H H' : Hp} (s : Same H H') : Tle H H' := fun b xs h => s b _ h
theorem Tle.refl (H : Hp) : Tle H H := fun _ _ h => h
theorem Tle.tr {H H1 H2 : Hp} (a : Tle H H1) (b : Tle H1 H2) : Tle H H2 := fun c xs h => b c xs (a c xs h)
theorem Tle.lst {H : Hp} {D : Addr} {xs : List V} {o : HO} (h : H D = some (.lst xs)) : Tle H (upd H D o) := fun b ys e => by
  rw [upd_ne (ne_of e h (fun z => by cases z))]
  exact e

/-! ### data in tuples -/
mutual
inductive Tp (H : Hp) : V → PyData → Prop
  | non : Tp H .non .none
  | bl (b : Bool) : Tp H (.bl b) (.bool b)
  | int (i : Int) : Tp H (.int i) (.int i)
  | str (x : Str) : Tp H (.str x) (.str x)
  | tup {a : Addr} {xs : List V} {ds : List PyData} : H a = some (.tup xs) → TpA H xs ds → Tp H (.ref a) (.tuple ds)
inductive TpA (H : Hp) : List V → List PyData → Prop
  | nil : TpA H [] []
  | cons {v : V} {vs : List V} {d : PyData} {ds : List PyData} : Tp H v d → TpA H vs ds → TpA H (v :: vs) (d :: ds)
end
section
variable {H H' : Hp}
mutual
theorem Tp.le (h : Tle H H') : ∀ (d : PyData) (v : V), Tp H v d → Tp H' v d
  | .none, _, x => by cases x; exact .non
  | .bool _, _, x => by cases x; exact .bl _
  | .int _, _, x => by cases x; exact .int _
  | .str _, _, x => by cases x; exact .str _
  | .list _, _, x => by cases x
  | .dict _, _, x => by cases x
  | .tuple ds, _, x => by
    cases x with
    | tup h1 h2 => exact .tup (h _ _ h1) (TpA.le h ds _ h2)
theorem TpA.le (h : Tle H H') : ∀ (ds : List PyData) (vs : List V), TpA H vs ds → TpA H' vs ds
  | [], _, x => by cases x; exact .nil
  | d :: ds, _, x => by
    cases x with
    | cons h1 h2 => exact .cons (Tp.le h d _ h1) (TpA.le h ds _ h2)
end
mutual
theorem Tp.dp {K : PySem.W.Frag} : ∀ (d : PyData) (v : V), Tp H v d → Dp K H v d
  | .none, _, x => by cases x; exact .non
  | .bool _, _, x => by cases x; exact .bl _
  | .int _, _, x => by cases x; exact .int _
  | .str _, _, x => by cases x; exact .str _
  | .list _, _, x => by cases x
  | .dict _, _, x => by cases x
  | .tuple ds, _, x => by
    cases x with
    | tup h1 h2 => exact .tup (SqT.of h1) (TpA.dp ds _ h2)
theorem TpA.dp {K : PySem.W.Frag} : ∀ (ds : List PyData) (vs : List V), TpA H vs ds → DpAll K H vs ds
  | [], _, x => by cases x; exact .nil
  | d :: ds, _, x => by
    cases x with
    | cons h1 h2 => exact .cons (Tp.dp d _ h1) (TpA.dp ds _ h2)
end
theorem Tp.same {d : PyData} {v : V} (h : Tp H v d) (s : Same H H') : Tp H' v d := Tp.le (.of s) d v h
theorem TpA.same {ds : List PyData} {vs : List V} (h : TpA H vs ds) (s : Same H H') : TpA H' vs ds := TpA.le (.of s) ds vs h
theorem TpA.length : ∀ {vs : List V} {ds : List PyData}, TpA H vs ds → vs.length = ds.length
  | _, _, .nil => rfl
  | _, _, .cons _ h => by rw [List.length_cons, List.length_cons, TpA.length h]
theorem TpA.snoc : ∀ {vs : List V} {ds : List PyData} {v : V} {d : PyData}, TpA H vs ds → Tp H v d → TpA H (vs ++ [v]) (ds ++ [d])
  | _, _, _, _, .nil, h => .cons h .nil
  | _, _, _, _, .cons a b, h => .cons a (TpA.snoc b h)
theorem TpA.append : ∀ {vs us : List V} {ds es : List PyData}, TpA H vs ds → TpA H us es → TpA H (vs ++ us) (ds ++ es)
  | _, _, _, _, .nil, h => h
  | _, _, _, _, .cons a b, h => .cons a (TpA.append b h)
theorem TpA.ints : ∀ (ns : List Int), TpA H (ns.map V.int) (ns.map PyData.int)
  | [] => .nil
  | n :: ns => .cons (.int n) (TpA.ints ns)
theorem TpA.strs : ∀ (ws : List Str), TpA H (ws.map V.str) (ws.map PyData.str)
  | [] => .nil
  | n :: ns => .cons (.str n) (TpA.strs ns)
theorem TpA.ints_inv : ∀ {ns : List Int} {vs : List V}, TpA H vs (ns.map PyData.int) → vs = ns.map V.int
  | [], _, x => by
    rw [List.map_nil] at x
    cases x
    rfl
  | n :: ns, _, x => by
    rw [List.map_cons] at x
    cases x with
    | cons h1 h2 =>
      cases h1
      rw [TpA.ints_inv h2]
      rfl
theorem TpA.strs_inv : ∀ {ns : List Str} {vs : List V}, TpA H vs (ns.map PyData.str) → vs = ns.map V.str
  | [], _, x => by
    rw [List.map_nil] at x
    cases x
    rfl
  | n :: ns, _, x => by
    rw [List.map_cons] at x
    cases x with
    | cons h1 h2 =>
      cases h1
      rw [TpA.strs_inv h2]
      rfl
theorem TpA.bls_inv : ∀ {ns : List Bool} {vs : List V}, TpA H vs (ns.map PyData.bool) → vs = ns.map V.bl
  | [], _, x => by
    rw [List.map_nil] at x
    cases x
    rfl
  | n :: ns, _, x => by
    rw [List.map_cons] at x
    cases x with
    | cons h1 h2 =>
      cases h1
      rw [TpA.bls_inv h2]
      rfl
theorem Tp.tupI {v : V} {ns : List Int} (h : Tp H v (tupI ns)) : ∃ a, v = .ref a ∧ H a = some (.tup (ns.map V.int)) := by
  unfold K99.tupI at h
  cases h with
  | tup h1 h2 =>
    rw [TpA.ints_inv h2] at h1
    exact ⟨_, rfl, h1⟩
theorem Tp.ofI {a : Addr} {ns : List Int} (h : H a = some (.tup (ns.map V.int))) : Tp H (.ref a) (K99.tupI ns) := .tup h (TpA.ints ns)
theorem Tp.isN {v : V} {d : PyData} (h : Tp H v d) : decide (v = .non) = K99.isN d := by
  cases h <;> first | rfl | simp [K99.isN]
theorem TpA.get : ∀ {vs : List V} {ds : List PyData} {i : Nat} {d : PyData}, TpA H vs ds → ds[i]? = some d → ∃ v, vs[i]? = some v ∧ Tp H v d
  | _, _, _, _, .nil, e => by simp at e
  | _, _, 0, _, .cons h _, e => by
    have e := Option.some.inj e
    subst e
    exact ⟨_, rfl, h⟩
  | _, _, i + 1, _, .cons _ h, e => TpA.get (i := i) h (by simpa using e)
end

/-! ### a comprehension whose elements are reckoned without a trace -/
theorem lc_map {K : PySem.W.Frag} {a : Addr} {xs : List V} {i0 : Nat} {te : TE} {σ : St} {H1 : Hp} {D : Addr} {Qd : Hp → Prop} (f : V → PyData) (hS : SqL K H1 a xs) (hD : H1 D = none) (hz : xs.length ≤ sizeLine)
    (hs : ∀ (i : Nat) (x : V) (H : Hp) (Q : VK), xs[i]? = some x → Same H1 H → (∀ (y : V) (H4 : Hp), Same H H4 → Tp H4 y (f x) → Q y H4) → te ((σ.set i0 none).set i0 (some x)) H Q)
    (hd : ∀ (H : Hp) (acc : List V), Same H1 H → H D = some (.lst acc) → TpA H acc (xs.map f) → Qd H) :
    ∃ W : Nat → Nat → Hp → Prop, (∃ k0, W 0 k0 (upd H1 D (.lst []))) ∧ ∀ i k0 H, W i k0 H →
      ((Itl K a).stop i H ∧ Qd H) ∨ ((Itl K a).go i H ∧ ∃ Nx : Hp → Prop, (∀ H', Nx H' → ∃ k1, k1 < k0 ∧ W (i + 1) k1 H') ∧ ∀ x H', (Itl K a).yld i H x H' → gName i0 x (wipe σ [i0]) H' fun σ2 H2 => wipe σ2 [i0] = wipe σ [i0] ∧ tYes σ2 H2 fun b H3 =>
        if b = true then te σ2 H3 fun y H4 => ∃ ac, H4 D = some (.lst ac) ∧ ac.length < sizeLine ∧ Nx (upd H4 D (.lst (ac ++ [y]))) else Nx H3) := by
  refine lc_list (K := K) (a := a) (xs := xs) (fun i H => Same H1 H ∧ ∃ acc, H D = some (.lst acc) ∧ TpA H acc ((xs.take i).map f)) ⟨same_own (Same.refl _) hD, [], upd_same, by rw [List.take_zero]; exact .nil⟩
    (fun i H _ p => p.1.seq hS) ?_ ?_
  · rintro i x H hi ⟨s1, acc, hacc, ht⟩
    have hlt : i < xs.length := (List.getElem?_eq_some_iff.mp hi).1
    have hl : acc.length = i := by
      rw [ht.length, List.length_map, List.length_take]
      omega
    refine ⟨?_, ?_⟩
    · show ((σ.set i0 none).set i0 (some x)).set i0 none = σ.set i0 none
      rw [List.set_set, List.set_set]
    · unfold tYes
      dsimp only
      refine iteT ?_
      refine hs i x H _ hi s1 fun y H4 s4 hy => ⟨acc, s4 _ _ hacc, by omega, ?_, acc ++ [y], upd_same, ?_⟩
      · exact same_own (s1.trans s4) hD
      · have e : (xs.take (i + 1)).map f = (xs.take i).map f ++ [f x] := by
          rw [List.take_succ, hi, List.map_append]
          rfl
        rw [e]
        exact (TpA.le (Tle.lst (s4 _ _ hacc)) _ _ ((ht.same s4).snoc hy))
  · rintro H ⟨s1, acc, hacc, ht⟩
    rw [List.take_length] at ht
    exact hd H acc s1 hacc ht
/-- the same over a text, some signs left out: only how many stay -/
theorem allB {bs : List Bool} : bs.all id = bs.all fun b => b := rfl

/-! ### words -/
def Wl (H : Hp) (a : Addr) (ws : List Str) : Prop := H a = some (.lst (ws.map V.str))
theorem Wl.same {H H' : Hp} {a : Addr} {ws : List Str} (h : Wl H a ws) (s : Same H H') : Wl H' a ws := s _ _ h
theorem sI (n d k : Nat) : HT.sIx n d (some (k : Int)) = min k n := HT.sIx_nat n d k
theorem cut_from {α : Type} (f : α → V) (ws : List α) (k : Nat) : cutV (ws.map f) (some (k : Int)) none = (ws.drop k).map f := by
  unfold cutV
  rw [sI, HT.sIx_none, List.length_map, ← List.map_drop, ← List.map_take]
  congr 1
  by_cases h : k ≤ ws.length
  · rw [Nat.min_eq_left h, List.take_of_length_le (by rw [List.length_drop]; omega)]
  · rw [Nat.min_eq_right (by omega), List.drop_eq_nil_of_le (Nat.le_refl _), List.drop_eq_nil_of_le (by omega)]
    simp
theorem cut_to {α : Type} (f : α → V) (ws : List α) (k : Nat) : cutV (ws.map f) none (some (k : Int)) = (ws.take k).map f := by
  unfold cutV
  rw [sI, HT.sIx_none, List.length_map, List.drop_zero, ← List.map_take, Nat.sub_zero]
  congr 1
  by_cases h : k ≤ ws.length
  · rw [Nat.min_eq_left h]
  · rw [Nat.min_eq_right (show ws.length ≤ k by omega), List.take_of_length_le (Nat.le_refl _), List.take_of_length_le (by omega)]
theorem cut_mid {α : Type} (f : α → V) (ws : List α) (i j : Nat) : cutV (ws.map f) (some (i : Int)) (some (j : Int)) = ((ws.take j).drop i).map f := by
  unfold cutV
  rw [sI, sI, List.length_map, ← List.map_drop, ← List.map_take]
  congr 1
  rw [List.drop_take]
  by_cases h : i ≤ ws.length
  · rw [Nat.min_eq_left h]
    by_cases h2 : j ≤ ws.length
    · rw [Nat.min_eq_left h2]
    · rw [Nat.min_eq_right (by omega), List.take_of_length_le (by rw [List.length_drop]; exact Nat.le_refl _), List.take_of_length_le (by rw [List.length_drop]; omega)]
  · have hi : ws.length ≤ i := by omega
    rw [Nat.min_eq_right hi, List.drop_eq_nil_of_le (Nat.le_refl _), List.drop_eq_nil_of_le hi]
    simp
theorem cut_but1 {α : Type} (f : α → V) (ws : List α) : cutV (ws.map f) none (some (-1)) = ws.dropLast.map f := by
  unfold cutV
  have e : HT.sIx (ws.map f).length (ws.map f).length (some (-1)) = ws.length - 1 := by
    show (if (-1 : Int) < 0 then ((-1 : Int) + ((ws.map f).length : Int)).toNat else min (-1 : Int).toNat (ws.map f).length) = _
    rw [if_pos (by decide), List.length_map]
    omega
  rw [e, HT.sIx_none, List.drop_zero, ← List.map_take, List.dropLast_eq_take]
  simp
end K99

/-! K99T -/
set_option Elab.async false
set_option linter.all false
set_option maxRecDepth 100000
/-! What the top has written. -/
namespace K99
open PySem L2
/-- D: the written dict NUMBERS -/
structure Txt (K : PySem.W.Frag) (w : World) (mg : Str → Option Value) (D : Addr) : Prop where
  len : mg "len" = none
  all : mg "all" = none
  tuple : mg "tuple" = none
  int : mg "int" = none
  str : mg "str" = none
  list : mg "list" = none
  range : mg "range" = none
  enumerate : mg "enumerate" = none
  isinstance : mg "isinstance" = none
  bool : mg "bool" = none
  ValueError : mg "ValueError" = none
  gDIGITS : ∃ u, mg "DIGITS" = some u ∧ RelV (.str "0123456789") u
  gMOST_DIGITS : ∃ u, mg "MOST_DIGITS" = some u ∧ RelV (.int 60) u
  gNUMBERS : ∃ u, mg "NUMBERS" = some u ∧ RelV (.ref D) u
  kN : ∃ es n, K.lookup D = some ⟨.type "dict", none, .dict es n, #[]⟩ ∧ PySem.W.KeysLit w.params es.toList ∧ (D == sysModules) = false ∧
    ∀ x : Str, ∃ r, PySem.W.nsIn K D x = some r ∧ (match needs x with | some k => ∃ u, r = some u ∧ RelV (.int (k : Int)) u | none => r = none)
  d_is_integer_text : Src K mg "is_integer_text" (top 13) ["text"]
  d_read_numbers : Src K mg "read_numbers" (top 14) ["words"]
  d_parts_behind : Src K mg "parts_behind" (top 15) ["words", "mark"]
  d_read_table : Src K mg "read_table" (top 16) ["words"]
  d_read_wishes : Src K mg "read_wishes" (top 17) ["kind", "words"]
  d_read_groups : Src K mg "read_groups" (top 18) ["words"]
  d_read_side : Src K mg "read_side" (top 19) ["words"]
  d_read_caps : Src K mg "read_caps" (top 20) ["words"]
  d_read_part : Src K mg "read_part" (top 21) ["words"]
  d_read_choice : Src K mg "read_choice" (top 22) ["words"]
  d_read_deed : Src K mg "read_deed" (top 25) ["line"]
  d_read_journal : Src K mg "read_journal" (top 26) ["text"]
  d__law_draws : Src K mg "_law_draws" (top 28) ["_law_script", "_law_many"]
  d__law_take : Src K mg "_law_take" (top 29) ["_law_draws_here", "_law_many"]
  d__law_number : Src K mg "_law_number" (top 30) ["_law_script", "_law_draws_here"]
  d__law_numbers : Src K mg "_law_numbers" (top 31) ["_law_script", "_law_draws_here", "_law_least"]
  d__law_caps : Src K mg "_law_caps" (top 32) ["_law_script", "_law_draws_here"]
  d__law_part : Src K mg "_law_part" (top 33) ["_law_script", "_law_draws_here"]
  d__law_any_deed : Src K mg "_law_any_deed" (top 34) ["_law_script", "_law_draws_here"]
  d__law_texts : Src K mg "_law_texts" (top 35) ["_law_numbers_here"]
  d__law_group_words : Src K mg "_law_group_words" (top 36) ["_law_groups"]
  d__law_choice_words : Src K mg "_law_choice_words" (top 37) ["_law_choice"]
  d__law_line : Src K mg "_law_line" (top 38) ["_law_deed"]
  d__law_integer : Src K mg "_law_integer" (top 39) ["_law_word"]
  d__law_integers : Src K mg "_law_integers" (top 40) ["_law_words_here"]
  d__law_cut : Src K mg "_law_cut" (top 41) ["_law_words_here", "_law_mark"]
  d__law_read_side : Src K mg "_law_read_side" (top 42) ["_law_words_here"]
  d__law_read_wishes : Src K mg "_law_read_wishes" (top 43) ["_law_kind", "_law_words_here"]
  d__law_read_choice : Src K mg "_law_read_choice" (top 44) ["_law_words_here", "_law_whole"]
  d__law_read_deed : Src K mg "_law_read_deed" (top 45) ["_law_line_here"]
  d__law_due : Src K mg "_law_due" (top 46) ["_law_name"]
  d__law_same : Src K mg "_law_same" (top 47) ["_law_actual", "_law_due_here"]
  d__law_words : Src K mg "_law_words" (top 48) []
  d__law_spoilt : Src K mg "_law_spoilt" (top 49) ["_law_draws_here", "_law_text"]
  d__law_due_of : Src K mg "_law_due_of" (top 50) ["_law_text"]
  d__law_read : Src K mg "_law_read" (top 51) ["_law_text"]
  d__law_marks : Src K mg "_law_marks" (top 52) ["_law_e"]
  d_law : Src K mg "law" (top 53) ["_law_script"]
end K99

/-! K99P1 -/
set_option Elab.async false
set_option linter.all false
set_option maxRecDepth 100000
set_option maxHeartbeats 1000000
namespace K99
open PySem L2 TL
open PyProof.Rows (envOfC)

/-! ### signs -/
theorem tl_to (w : Str) (k : Nat) : tl (cutS w none (some (k : Int))) = (tl w).take k := by
  show ((w.cps.toList.drop (HT.sIx w.length 0 none)).take (HT.sIx w.length w.length (some (k : Int)) - HT.sIx w.length 0 none)) = _
  rw [HT.sIx_none, sI, List.drop_zero, Nat.sub_zero]
  have e : w.length = w.cps.toList.length := len_tl w
  by_cases h : k ≤ w.length
  · rw [Nat.min_eq_left h]
  · rw [Nat.min_eq_right (by omega), List.take_of_length_le (by omega), List.take_of_length_le (by show w.cps.toList.length ≤ k; omega)]
theorem tl_from (w : Str) (k : Nat) : tl (cutS w (some (k : Int)) none) = (tl w).drop k := by
  show ((w.cps.toList.drop (HT.sIx w.length 0 (some (k : Int)))).take (HT.sIx w.length w.length none - HT.sIx w.length 0 (some (k : Int)))) = _
  rw [HT.sIx_none, sI]
  have e : w.length = w.cps.toList.length := len_tl w
  by_cases h : k ≤ w.length
  · rw [Nat.min_eq_left h, List.take_of_length_le (by rw [List.length_drop]; omega)]
  · rw [Nat.min_eq_right (by omega), Nat.sub_self, List.take_zero]
    exact (List.drop_eq_nil_of_le (by show w.cps.toList.length ≤ k; omega)).symm
theorem strEq {a b : Str} : (V.str a = V.str b) ↔ tl a = tl b := ⟨fun h => by injection h with h; rw [h], fun h => by rw [ext_tl h]⟩
theorem tl_minus : tl ("-" : Str) = [45] := by decide +kernel
theorem tl_zero : tl ("0" : Str) = [48] := by decide +kernel
theorem tl_empty : tl ("" : Str) = [] := by decide +kernel
theorem tl_digits : tl ("0123456789" : Str) = [48, 49, 50, 51, 52, 53, 54, 55, 56, 57] := by decide +kernel
theorem dig_in (c : Nat) : decide (c ∈ tl ("0123456789" : Str)) = dig c := by
  rw [tl_digits]
  by_cases h : 48 ≤ c ∧ c ≤ 57
  · have e : c = 48 ∨ c = 49 ∨ c = 50 ∨ c = 51 ∨ c = 52 ∨ c = 53 ∨ c = 54 ∨ c = 55 ∨ c = 56 ∨ c = 57 := by omega
    rcases e with e | e | e | e | e | e | e | e | e | e <;> subst e <;> rfl
  · have e1 : dig c = false := by
      unfold dig
      by_cases h1 : 48 ≤ c
      · rw [decide_eq_false (show ¬ c ≤ 57 from fun z => h ⟨h1, z⟩), Bool.and_false]
      · rw [decide_eq_false h1, Bool.false_and]
    rw [e1, decide_eq_false_iff_not]
    simp
    omega
/-- the digits of a word, as a text -/
def dS (w : Str) : Str := if (tl w).take 1 = [45] then cutS w (some 1) none else w
theorem tl_dS (w : Str) : tl (dS w) = dgs (tl w) := by
  unfold dS dgs
  by_cases h : (tl w).take 1 = [45]
  · rw [if_pos h, if_pos h]
    exact tl_from w 1
  · rw [if_neg h, if_neg h]
theorem dS_len (w : Str) : (dS w).length ≤ w.length := by
  rw [len_tl, len_tl, tl_dS]
  unfold dgs
  by_cases h : (tl w).take 1 = [45]
  · rw [if_pos h, List.length_drop]
    omega
  · rw [if_neg h]
    exact Nat.le_refl _
theorem ite_set {c : Prop} [Decidable c] {i : Nat} {x y : V} {σ : L2.St} {H : Hp} {N : L2.St → Hp → Prop} (h : gName i (if c then x else y) σ H N) : if c then gName i x σ H N else gName i y σ H N := by
  by_cases q : c
  · rw [if_pos q] at h ⊢
    exact h
  · rw [if_neg q] at h ⊢
    exact h
theorem ite_imp {c A B G : Prop} [Decidable c] (h1 : c → G → A) (h2 : ¬ c → G → B) (g : G) : if c then A else B := by
  by_cases q : c
  · rw [if_pos q]
    exact h1 q g
  · rw [if_neg q]
    exact h2 q g
theorem big {n : Nat} (h : n ≤ 30000) : n ≤ sizeLine := Nat.le_trans h (by decide)

section
variable {P : Program} {w : World} {K : PySem.W.Frag} {mg : Str → Option Value} {base : Heap} {D : Addr}
abbrev sIsIntegerText : Stmt := top 13
theorem scIsIntegerText : FnScope ["text", "digits", "digit"] ["text"] (defScope sIsIntegerText) := ⟨rfl, rfl, rfl, by decide +kernel, rfl, by decide +kernel, by decide +kernel⟩
def spIsInt : Sp := fun vs H Q _ => ∃ x : Str, vs = [.str x] ∧ x.length ≤ 30000 ∧ Q (.bl (isInt x)) H
theorem has_is_integer_text (T : Txt K w mg D) : Has P w K mg base "is_integer_text" ["text"] 1 spIsInt := by
  refine T.d_is_integer_text.has scIsIntegerText (fun vs H Q E h => ?_) (fun f cdv A outer s H vs Q E hr h => ?_)
  · obtain ⟨x, rfl, _⟩ := h
    rfl
  · obtain ⟨x, rfl, hx, k⟩ := h
    refine ⟨_, (pss_cons (ps_set (i := 1) scIsIntegerText.nd rfl (by first | exact Or.inl rfl | exact Or.inr rfl) (pe_ifExp (pt_cmpR op_eq (pe_slice sl_str (pv 0) po_none (po_some pe_int)) pe_str (nomark _)) (pe_slice sl_str (pv 0) (po_some pe_int) po_none) (pv 0)))
      (pss_cons (ps_for PassesOwn.never rfl (pi_str (pv 1)) (pg_name (i := 2) scIsIntegerText.nd rfl (Or.inl rfl))
      (pss_one (ps_if (pt_cmpR op_notIn_sign (pv 2) (pe_globE T.gDIGITS) (by rfl)) (pss_one (ps_ret pe_bl))
      pss_nil)))
      (pss_cons (ps_if (PW.pt (pw_or (pt_cmpR op_eq (pv 1) pe_str (nomark _)) (pw_or1 (pt_cmpR op_gt (pe_callB call_len_str (by rfl) T.len PySem.boot_len (pa_cons (pv 1) pa_nil)) (pe_globE T.gMOST_DIGITS) (nomark _))))) (pss_one (ps_ret pe_bl))
      pss_nil)
      (pss_one (ps_ret (pe_or (pe_cmpR op_ne (pe_ix ix_str (pv 1) pe_int (fun _ _ => rfl)) pe_str (nomark _)) (pe_one (pe_cmpR op_eq (pv 0) pe_str (nomark _))))))))), ?_⟩
    have hz := big hx
    refine ⟨_, rfl, 1, rfl, x, rfl, hz, rfl, _, rfl, ?_⟩
    have ec : decide (V.str (cutS x none (some 1)) = V.str "-") = decide ((tl x).take 1 = [45]) := by
      refine decide_eq_decide.mpr ?_
      rw [strEq, tl_minus]
      have e := tl_to x 1
      rw [show ((1 : Nat) : Int) = 1 from rfl] at e
      rw [e]
    rw [ec]
    have edS : decide ((tl x).take 1 = [45]) = true → cutS x (some 1) none = dS x := fun c => by
      unfold dS
      rw [if_pos (of_decide_eq_true c)]
    have edS2 : ¬ decide ((tl x).take 1 = [45]) = true → x = dS x := fun c => by
      unfold dS
      rw [if_neg (fun z => c (decide_eq_true z))]
    apply ite_imp
    · intro c g
      refine ⟨_, rfl, 1, rfl, x, rfl, hz, ?_⟩
      rw [edS c]
      exact g
    · intro c g
      refine ⟨_, rfl, ?_⟩
      have e : V.str x = V.str (dS x) := congrArg V.str (edS2 c)
      have g' := g
      rw [← e] at g'
      exact g'
    -- the loop
    have hd := dS_len x
    have hdz : (dS x).length ≤ sizeLine := Nat.le_trans hd hz
    refine ⟨_, rfl, _, rfl, for_it walk_str (fun i σ H' => ∃ v : Option V, σ = [some (.str x), some (.str (dS x)), v] ∧ H' = H ∧ ((tl (dS x)).take i).all dig = true) ⟨none, rfl, rfl, by rw [List.take_zero]; rfl⟩ (fun _ _ _ _ _ => trivial) ?_ ?_⟩
    · rintro i y σ H1 H2 hi ⟨v, rfl, rfl, ha⟩ ⟨rfl, c, hc, rfl⟩
      have hc' : (tl (dS x))[i]? = some c := by
        rw [← hc]
        simp
      refine ⟨_, rfl, c, _, rfl, rfl, _, rfl, ?_⟩
      have e1 : decide (c ∈ ("0123456789" : Str).cps.toList) = dig c := dig_in c
      rw [e1]
      by_cases hg : dig c = true
      · rw [hg]
        refine iteF ?_
        refine ⟨_, rfl, rfl, ?_⟩
        rw [List.take_succ, hc', List.all_append, ha]
        simp [hg]
      · have hg : dig c = false := by simpa using hg
        rw [hg]
        refine iteT ?_
        have e2 : isInt x = false := by
          unfold isInt
          have e3 : (dgs (tl x)).all dig = false := by
            rw [← tl_dS]
            refine Bool.eq_false_iff.mpr fun z => ?_
            rw [List.all_eq_true] at z
            have := z c (List.mem_of_getElem? hc')
            rw [hg] at this
            cases this
          rw [e3]
          simp
        rw [e2] at k
        exact k
    · rintro σ H1 ⟨v, rfl, rfl, ha⟩
      have ha : (dgs (tl x)).all dig = true := by
        rw [← tl_dS]
        have e : ((tl (dS x)).take (dS x).cps.size) = tl (dS x) := List.take_of_length_le (by simp [tl])
        rw [e] at ha
        exact ha
      have hlen : (dS x).length = (dgs (tl x)).length := by rw [len_tl, tl_dS]
      refine ⟨_, rfl, rfl, _, rfl, ?_⟩
      by_cases c1 : dgs (tl x) = []
      · rw [decide_eq_true (show V.str (dS x) = V.str "" from strEq.mpr (by rw [tl_dS, c1, tl_empty]))]
        refine iteT (iteT ?_)
        have e2 : isInt x = false := by
          unfold isInt
          rw [c1]
          simp
        rw [e2] at k
        exact k
      · rw [decide_eq_false (show ¬ V.str (dS x) = V.str "" from fun z => c1 (by have := strEq.mp z; rw [tl_dS, tl_empty] at this; exact this))]
        refine iteF ?_
        refine ⟨_, rfl, _, rfl, hdz, _, _, rfl, rfl, _, rfl, ?_⟩
        by_cases c2 : (dgs (tl x)).length ≤ 60
        · rw [decide_eq_false (show ¬ (60 : Int) < ((dS x).length : Int) by omega)]
          refine iteF ?_
          obtain ⟨c, r, ecr⟩ : ∃ c r, dgs (tl x) = c :: r := by
            cases h : dgs (tl x) with
            | nil => exact absurd h c1
            | cons c r => exact ⟨c, r, rfl⟩
          have at0 : atI (dS x).cps.toList 0 = some c := by
            have e : (dS x).cps.toList = c :: r := by rw [← ecr, ← tl_dS]
            rw [e]
            exact atI_nat (j := 0) rfl
          refine ⟨_, rfl, _, 0, c, rfl, rfl, hdz, at0, rfl, _, rfl, ?_⟩
          have e0 : (V.str (⟨#[c]⟩ : Str) = V.str "0") ↔ c = 48 := by
            rw [strEq, tl_zero]
            show [c] = [48] ↔ _
            constructor
            · intro h
              injection h
            · intro h
              rw [h]
          have fin : isInt x = (!decide (c = 48) || decide (tl x = [48])) := by
            unfold isInt
            rw [ha, ecr]
            rw [ecr] at c2
            rw [decide_eq_true c2]
            simp
          by_cases c3 : c = 48
          · rw [decide_eq_true (e0.mpr c3)]
            refine iteF ?_
            refine ⟨_, rfl, rfl, ?_⟩
            have e4 : decide (V.str x = V.str "0") = decide (tl x = [48]) := decide_eq_decide.mpr (by rw [strEq, tl_zero])
            rw [fin, decide_eq_true c3] at k
            rw [e4]
            exact k
          · rw [decide_eq_false (fun z => c3 (e0.mp z))]
            refine iteT ?_
            rw [fin, decide_eq_false c3] at k
            exact k
        · rw [decide_eq_true (show (60 : Int) < ((dS x).length : Int) by omega)]
          refine iteT ?_
          have e2 : isInt x = false := by
            unfold isInt
            rw [decide_eq_false c2]
            simp
          rw [e2] at k
          exact k
end
end K99

/-! K99P2 -/
set_option Elab.async false
set_option linter.all false
set_option maxRecDepth 100000
set_option maxHeartbeats 1000000
namespace K99
open PySem L2 TL
open PyProof.Rows (envOfC)

/-! ### rows of words -/
structure WOk (ws : List Str) : Prop where
  few : ws.length ≤ 30000
  short : ∀ w ∈ ws, w.length ≤ 30000 ∧ PyData.canLay0 (.str w) = true
theorem WOk.sub {ws us : List Str} (h : WOk ws) (hl : us.length ≤ 30000) (hm : ∀ w ∈ us, w ∈ ws) : WOk us := ⟨hl, fun w hw => h.short w (hm w hw)⟩
theorem WOk.take {ws : List Str} (h : WOk ws) (k : Nat) : WOk (ws.take k) := h.sub (by rw [List.length_take]; have := h.few; omega) fun w hw => List.mem_of_mem_take hw
theorem WOk.drop {ws : List Str} (h : WOk ws) (k : Nat) : WOk (ws.drop k) := h.sub (by rw [List.length_drop]; have := h.few; omega) fun w hw => List.mem_of_mem_drop hw
theorem WOk.part {ws p : List Str} {m : Str} (h : WOk ws) (hp : p ∈ cut m ws) : WOk p := h.sub (Nat.le_trans (cut_len hp) h.few) (cut_mem hp).2
theorem str_at {ws : List Str} {i : Nat} {x : V} (h : (ws.map V.str)[i]? = some x) : ∃ w, x = .str w ∧ ws[i]? = some w ∧ w ∈ ws := by
  rw [List.getElem?_map] at h
  cases e : ws[i]? with
  | none =>
    rw [e] at h
    cases h
  | some w =>
    rw [e] at h
    exact ⟨w, (Option.some.inj h).symm, rfl, List.mem_of_getElem? e⟩
/-- what is made of each text -/
def onS (f : Str → PyData) : V → PyData
  | .str w => f w
  | _ => .none
theorem map_onS (f : Str → PyData) (ws : List Str) : (ws.map V.str).map (onS f) = ws.map f := by
  rw [List.map_map]
  rfl

section
variable {P : Program} {w : World} {K : PySem.W.Frag} {mg : Str → Option Value} {base : Heap} {D : Addr}
abbrev sReadNumbers : Stmt := top 14
theorem scReadNumbers : FnScope ["words", "word"] ["words"] (defScope sReadNumbers) := ⟨rfl, rfl, rfl, by decide +kernel, rfl, by decide +kernel, by decide +kernel⟩
def spNums : Sp := fun vs H Q _ => ∃ (a : Addr) (ws : List Str), vs = [.ref a] ∧ Wl H a ws ∧ WOk ws ∧ ∀ (v : V) (H' : Hp), Same H H' → Tp H' v (numsD (nums ws)) → Q v H'
theorem has_read_numbers (T : Txt K w mg D) : Has P w K mg base "read_numbers" ["words"] 2 spNums := by
  have h_is_integer_text : Has P w K mg base "is_integer_text" ["text"] 1 spIsInt := has_is_integer_text T
  refine T.d_read_numbers.has scReadNumbers (fun vs H Q E h => ?_) (fun f cdv A outer s H vs Q E hr h => ?_)
  · obtain ⟨a, ws, rfl, _⟩ := h
    rfl
  · obtain ⟨a, ws, rfl, ha, ok, k⟩ := h
    refine ⟨_, (pss_cons (ps_if (pt_not (pt_val (pe_callB (cr_all rfl) (by rfl) T.all (by decide +kernel) (pa_cons (pe_lc (own := [("word", 1)]) rfl scReadNumbers.nd (pi_list (pv 0)) (blkOk_by (own := [("word", 1)]) (N := ["words", "word"]) (sc := defScope sReadNumbers) (by decide +kernel)) (fun _ _ _ _ _ => pg_name (i := 1) scReadNumbers.nd rfl (Or.inl rfl)) (fun _ _ _ _ _ => pts_nil) (fun _ _ _ _ _ => (pe_has h_is_integer_text (hr.mono (by decide)) (pa_cons (pv 1) pa_nil)))) pa_nil)))) (pss_one (ps_ret pe_non))
      pss_nil)
      (pss_one (ps_ret (pe_callTy call_tuple_of (by rfl) T.tuple (by decide +kernel) (pa_cons (pe_lc (own := [("word", 1)]) rfl scReadNumbers.nd (pi_list (pv 0)) (blkOk_by (own := [("word", 1)]) (N := ["words", "word"]) (sc := defScope sReadNumbers) (by decide +kernel)) (fun _ _ _ _ _ => pg_name (i := 1) scReadNumbers.nd rfl (Or.inl rfl)) (fun _ _ _ _ _ => pts_nil) (fun _ _ _ _ _ => (pe_callTy call_int_str (by rfl) T.int (by decide +kernel) (pa_cons (pv 1) pa_nil)))) pa_nil))))), ?_⟩
    have hz : (ws.map V.str).length ≤ sizeLine := by rw [List.length_map]; exact big ok.few
    refine ⟨_, rfl, a, rfl, ⟨_, SqL.of ha⟩, fun D1 hD1 => lc_map (K := K) (onS fun w => .bool (isInt w)) (SqL.of ha) hD1 hz ?_ ?_⟩
    · intro i x H1 Q1 hi s1 k1
      obtain ⟨x, rfl, _, hm⟩ := str_at hi
      exact ⟨_, rfl, x, rfl, (ok.short x hm).1, k1 _ _ (Same.refl _) (.bl _)⟩
    · intro H1 acc s1 hacc ht
      rw [map_onS, show (ws.map fun w => PyData.bool (isInt w)) = (ws.map isInt).map PyData.bool by rw [List.map_map]; rfl] at ht
      have e := ht.bls_inv
      subst e
      refine ⟨D1, _, rfl, SqL.of hacc, _, rfl, ?_⟩
      have ea : (ws.map isInt).all id = ws.all isInt := by rw [List.all_map]; rfl
      rw [ea]
      by_cases c : ws.all isInt = true
      · rw [c]
        refine iteF ?_
        refine ⟨_, rfl, a, rfl, ⟨_, SqL.of (ha.same s1)⟩, fun D2 hD2 => lc_map (K := K) (onS fun w => .int (intOf w)) (SqL.of (ha.same s1)) hD2 hz ?_ ?_⟩
        · intro i x H2 Q2 hi s2 k2
          obtain ⟨x, rfl, _, hm⟩ := str_at hi
          have hv := isInt_val (List.all_eq_true.mp c x hm)
          exact ⟨_, rfl, x, _, rfl, hv.1, by have := hv.2; omega, k2 _ _ (Same.refl _) (.int _)⟩
        · intro H2 acc2 s2 hacc2 ht2
          rw [map_onS, show (ws.map fun w => PyData.int (intOf w)) = (ws.map intOf).map PyData.int by rw [List.map_map]; rfl] at ht2
          have e := ht2.ints_inv
          subst e
          refine ⟨D2, _, rfl, .inl ⟨SqL.of hacc2, fun l hl => k _ _ (s1.trans (s2.trans (same_new hl))) ?_⟩⟩
          rw [nums_ok c]
          exact Tp.ofI upd_same
      · have c' : ws.all isInt = false := by simpa using c
        rw [c']
        refine iteT (k _ _ s1 ?_)
        rw [nums_no c]
        exact .non
end
end K99

/-! K99P3 -/
set_option Elab.async false
set_option linter.all false
set_option maxRecDepth 100000
set_option maxHeartbeats 1000000
namespace K99
open PySem L2 TL
open PyProof.Rows (envOfC)

/-! ### rows of rows of words -/
/-- at p a list of the words ws -/
abbrev WAt (H : Hp) (p : Addr) (ws : List Str) : Prop := H p = some (.lst (ws.map V.str))
/-- at F a list of lists of words -/
def LL (H : Hp) (F : Addr) (parts : List (List Str)) : Prop := ∃ ps : List Addr, H F = some (.lst (ps.map V.ref)) ∧ Paired (WAt H) ps parts
theorem pair_mono {H H' : Hp} : ∀ {ps : List Addr} {parts : List (List Str)}, Paired (WAt H) ps parts → (∀ p ∈ ps, ∀ o, H p = some o → H' p = some o) → Paired (WAt H') ps parts
  | _, _, .nil, _ => .nil
  | _, _, .cons a b, h => .cons (h _ List.mem_cons_self _ a) (pair_mono b fun p hp => h p (List.mem_cons_of_mem _ hp))
theorem LL.same {H H' : Hp} {F : Addr} {parts : List (List Str)} (h : LL H F parts) (s : Same H H') : LL H' F parts := by
  obtain ⟨ps, h1, h2⟩ := h
  exact ⟨ps, s _ _ h1, pair_mono h2 fun p _ o e => s p o e⟩
theorem pair_len {H : Hp} {ps : List Addr} {parts : List (List Str)} (h : Paired (WAt H) ps parts) : ps.length = parts.length := Paired.length h
theorem pair_get {H : Hp} : ∀ {ps : List Addr} {parts : List (List Str)} {i : Nat} {p : Addr}, Paired (WAt H) ps parts → ps[i]? = some p → ∃ ws, parts[i]? = some ws ∧ Wl H p ws
  | _, _, i, p, .nil, e => by simp at e
  | _, _, 0, p, .cons a b, e => by
    have e := Option.some.inj e
    subst e
    exact ⟨_, rfl, a⟩
  | _, _, i + 1, p, .cons a b, e => pair_get (i := i) b (by simpa using e)
theorem pair_last {H : Hp} : ∀ {ps : List Addr} {parts : List (List Str)}, Paired (WAt H) ps parts → parts ≠ [] → ∃ qs p, ps = qs ++ [p] ∧ Paired (WAt H) qs parts.dropLast ∧ Wl H p (parts.getLastD [])
  | _, _, .nil, h => absurd rfl h
  | _, _, .cons (a := p) (b := ws) a .nil, _ => ⟨[], p, rfl, .nil, a⟩
  | _, _, .cons (a := p) (b := ws) a (.cons (a := p2) (b := ws2) b c), _ => by
    obtain ⟨qs, q, e, h1, h2⟩ := pair_last (Paired.cons b c) (by simp)
    refine ⟨p :: qs, q, by rw [e]; rfl, .cons a h1, ?_⟩
    rw [List.getLastD_cons, List.getLastD_cons] at *
    exact h2
/-- the state of a loop that cuts -/
structure CutSt (H0 H : Hp) (F : Addr) (ps : List Addr) (parts : List (List Str)) : Prop where
  same : Same H0 H
  f0 : H0 F = none
  hF : H F = some (.lst (ps.map V.ref))
  new : ∀ p ∈ ps, H0 p = none
  nd : ps.Nodup
  nF : F ∉ ps
  pair : Paired (WAt H) ps parts
theorem CutSt.ll {H0 H : Hp} {F : Addr} {ps : List Addr} {parts : List (List Str)} (c : CutSt H0 H F ps parts) : LL H F parts := ⟨ps, c.hF, c.pair⟩
theorem CutSt.mem {H0 H : Hp} {F : Addr} {ps : List Addr} {parts : List (List Str)} (c : CutSt H0 H F ps parts) : ∀ p ∈ ps, H p ≠ none := fun p hp e => by
  obtain ⟨i, hi⟩ := List.getElem?_of_mem hp
  obtain ⟨ws, _, h⟩ := pair_get c.pair hi
  rw [show H p = _ from h] at e
  cases e
/-- F.append([]) -/
theorem CutSt.hit {H0 H : Hp} {F p : Addr} {ps : List Addr} {parts : List (List Str)} (c : CutSt H0 H F ps parts) (hp : H p = none) : CutSt H0 (upd (upd H p (.lst [])) F (.lst (ps.map V.ref ++ [.ref p]))) F (ps ++ [p]) (parts ++ [[]]) := by
  have npF : p ≠ F := fun e => by
    rw [e, c.hF] at hp
    cases hp
  have h0p : H0 p = none := c.same.free hp
  have nm : p ∉ ps := fun hm => c.mem p hm hp
  have keep : ∀ q, q ≠ p → q ≠ F → (upd (upd H p (.lst [])) F (.lst (ps.map V.ref ++ [.ref p]))) q = H q := fun q h1 h2 => by rw [upd_ne h2, upd_ne h1]
  refine ⟨same_own (same_own c.same h0p) c.f0, c.f0, ?_, ?_, ?_, ?_, ?_⟩
  · rw [upd_same, List.map_append]
    rfl
  · intro q hq
    rcases List.mem_append.mp hq with hq | hq
    · exact c.new q hq
    · rw [List.mem_singleton.mp hq]
      exact h0p
  · rw [List.nodup_append]
    refine ⟨c.nd, by simp, fun a ha b hb e => ?_⟩
    rw [List.mem_singleton.mp hb] at e
    exact nm (e ▸ ha)
  · intro hm
    rcases List.mem_append.mp hm with hm | hm
    · exact c.nF hm
    · exact npF (List.mem_singleton.mp hm).symm
  · refine Paired.snoc (pair_mono c.pair fun q hq o e => ?_) ?_
    · rw [keep q (fun z => nm (z ▸ hq)) (fun z => c.nF (z ▸ hq))]
      exact e
    · show (upd (upd H p (.lst [])) F _) p = _
      rw [upd_ne npF, upd_same]
      rfl
/-- F[-1].append(w) -/
theorem CutSt.miss {H0 H : Hp} {F p : Addr} {qs : List Addr} {parts : List (List Str)} {w : Str} (c : CutSt H0 H F (qs ++ [p]) parts) (h1 : Paired (WAt H) qs parts.dropLast) (h2 : Wl H p (parts.getLastD [])) :
    CutSt H0 (upd H p (.lst ((parts.getLastD []).map V.str ++ [.str w]))) F (qs ++ [p]) (parts.dropLast ++ [parts.getLastD [] ++ [w]]) := by
  have pm : p ∈ qs ++ [p] := List.mem_append_right _ (List.mem_singleton.mpr rfl)
  have nF : F ≠ p := fun e => c.nF (e ▸ pm)
  have nq : p ∉ qs := fun hm => by
    have := c.nd
    rw [List.nodup_append] at this
    exact this.2.2 p hm p (List.mem_singleton.mpr rfl) rfl
  refine ⟨same_own c.same (c.new p pm), c.f0, ?_, c.new, c.nd, c.nF, ?_⟩
  · rw [upd_ne nF]
    exact c.hF
  · refine Paired.snoc (pair_mono h1 fun q hq o e => ?_) ?_
    · have npq : q ≠ p := fun z => nq (by rw [← z]; exact hq)
      rw [upd_ne npq]
      exact e
    · show upd H p _ p = _
      rw [upd_same, List.map_append]
      rfl
theorem cstep_ne {m : Str} {A : List (List Str)} {w : Str} : cstep m A w ≠ [] := by
  unfold cstep
  split <;> simp
theorem fold_ne {m : Str} (ws : List Str) : ws.foldl (cstep m) [[]] ≠ [] := by
  rw [← cut_fold]
  exact cutA_ne m ws []
theorem fold_few {m : Str} (ws : List Str) : (ws.foldl (cstep m) [[]]).length ≤ ws.length + 1 := by
  rw [← cut_fold, cut_length]
  have := List.count_le_length (a := m) (l := ws)
  omega
theorem fold_last {m : Str} (ws : List Str) : ((ws.foldl (cstep m) [[]]).getLastD []).length ≤ ws.length := by
  rw [← cut_fold]
  refine cut_len (m := m) ?_
  have h := cutA_ne m ws []
  rw [List.getLastD_eq_getLast?, show (cut m ws).getLast? = some ((cutA m [] ws).getLast h) from List.getLast?_eq_some_getLast h]
  exact List.getLast_mem h
theorem fold_step {m : Str} {ws : List Str} {i : Nat} {w : Str} (h : ws[i]? = some w) (A : List (List Str)) : (ws.take (i + 1)).foldl (cstep m) A = cstep m ((ws.take i).foldl (cstep m) A) w := by
  rw [List.take_succ, h, List.foldl_append]
  rfl
theorem cutA_head (m : Str) : ∀ (ws l : List Str), ∃ t, (cutA m l ws).headD [] = l ++ t
  | [], l => ⟨[], by rw [cutA_nil, List.append_nil]; rfl⟩
  | w :: r, l => by
    by_cases h : w = m
    · subst h
      exact ⟨[], by rw [cutA_hit, List.append_nil]; rfl⟩
    · obtain ⟨t, e⟩ := cutA_head m r (l ++ [w])
      exact ⟨w :: t, by rw [cutA_miss h, e, List.append_assoc]; rfl⟩
theorem head_hit (m : Str) (r : List Str) : (cut m (m :: r)).headD [] = [] ∧ (cut m (m :: r)).tail = cut m r := by
  show (cutA m [] (m :: r)).headD [] = [] ∧ (cutA m [] (m :: r)).tail = _
  rw [cutA_hit]
  exact ⟨rfl, rfl⟩
theorem head_miss {m w : Str} (h : w ≠ m) (r : List Str) : (cut m (w :: r)).headD [] ≠ [] := by
  show (cutA m [] (w :: r)).headD [] ≠ []
  rw [cutA_miss h]
  obtain ⟨t, e⟩ := cutA_head m r ([] ++ [w])
  rw [e]
  simp

section
variable {P : Program} {w : World} {K : PySem.W.Frag} {mg : Str → Option Value} {base : Heap} {D : Addr}
abbrev sLawCut : Stmt := top 41
theorem scLawCut : FnScope ["_law_words_here", "_law_mark", "_law_found", "_law_word"] ["_law_words_here", "_law_mark"] (defScope sLawCut) := ⟨rfl, rfl, rfl, by decide +kernel, rfl, by decide +kernel, by decide +kernel⟩
def spCut : Sp := fun vs H Q _ => ∃ (a : Addr) (ws : List Str) (m : Str), vs = [.ref a, .str m] ∧ Wl H a ws ∧ WOk ws ∧ ∀ (F : Addr) (H' : Hp), Same H H' → LL H' F (cut m ws) → Q (.ref F) H'
theorem has__law_cut (T : Txt K w mg D) : Has P w K mg base "_law_cut" ["_law_words_here", "_law_mark"] 1 spCut := by
  refine T.d__law_cut.has scLawCut (fun vs H Q E h => ?_) (fun f cdv A outer s H vs Q E hr h => ?_)
  · obtain ⟨a, ws, m, rfl, _⟩ := h
    rfl
  · obtain ⟨a, ws, m, rfl, ha, ok, k⟩ := h
    refine ⟨_, (pss_cons (ps_set (i := 2) scLawCut.nd rfl (by first | exact Or.inl rfl | exact Or.inr rfl) (pe_lst (pa_cons (pe_lst pa_nil) pa_nil)))
      (pss_cons (ps_for PassesOwn.never rfl (pi_list (pv 0)) (pg_name (i := 3) scLawCut.nd rfl (Or.inl rfl))
      (pss_one (ps_if (pt_cmpR op_eq (pv 3) (pv 1) (nomark _)) (pss_one (ps_expr (pe_bm PySem.F.plainAttrs_list PySem.F.slot_list_append PySem.F.type_list_append mt_append (pv 2) (pa_cons (pe_lst pa_nil) pa_nil))))
      (pss_one (ps_expr (pe_bm PySem.F.plainAttrs_list PySem.F.slot_list_append PySem.F.type_list_append mt_append (pe_ix ix_list (pv 2) (pe_un un_neg pe_int) (fun _ _ => rfl)) (pa_cons (pv 3) pa_nil)))))))
      (pss_one (ps_ret (pv 2))))), ?_⟩
    refine ⟨Nat.zero_le _, fun p hp => ⟨by show 1 ≤ sizeLine; decide, fun F hF => ?_⟩⟩
    have pF : p ≠ F := fun e => by
      rw [← e, upd_same] at hF
      cases hF
    have hF0 : H F = none := by
      rw [upd_ne pF.symm] at hF
      exact hF
    have c0 : CutSt H (upd (upd H p (.lst [])) F (.lst [.ref p])) F [p] [[]] := by
      refine ⟨same_own (same_new hp) hF0, hF0, upd_same, fun q hq => by rw [List.mem_singleton.mp hq]; exact hp, by simp, by simp [pF.symm], .cons ?_ .nil⟩
      show (upd (upd H p (.lst [])) F (.lst [.ref p])) p = _
      rw [upd_ne pF, upd_same]
      rfl
    refine ⟨_, rfl, a, rfl, ⟨_, SqL.of (ha.same c0.same)⟩, for_list (K := K) (a := a) (xs := ws.map V.str) (fun i σ H' => ∃ (v : Option V) (ps : List Addr), σ = [some (.ref a), some (.str m), some (.ref F), v] ∧ CutSt H H' F ps ((ws.take i).foldl (cstep m) [[]]))
      ⟨none, [p], rfl, by rw [List.take_zero]; exact c0⟩ (fun i σ H' _ ⟨_, _, _, c⟩ => SqL.of (ha.same c.same)) ?_ ?_⟩
    · rintro i x σ H1 hi ⟨v, ps, rfl, c⟩
      obtain ⟨x, rfl, hx, hm⟩ := str_at hi
      have hlt : i < ws.length := (List.getElem?_eq_some_iff.mp hx).1
      have few := ok.few
      refine ⟨_, rfl, _, rfl, rfl, _, rfl, ?_⟩
      by_cases e : x = m
      · rw [decide_eq_true (show V.str x = V.str m by rw [e])]
        refine iteT ⟨_, rfl, .inl ⟨rfl, _, SqL.of c.hF⟩, Nat.zero_le _, fun q hq => ?_⟩
        have nq : F ≠ q := fun z => by
          rw [← z, c.hF] at hq
          cases hq
        have hl := fold_few (m := m) (ws.take i)
        rw [List.length_take] at hl
        refine ⟨F, _, _, rfl, rfl, by rw [upd_ne nq]; exact c.hF, ?_, _, ps ++ [q], rfl, ?_⟩
        · rw [List.length_map, pair_len c.pair]
          exact Nat.lt_of_le_of_lt (show _ ≤ 30001 by omega) (by decide)
        · rw [fold_step hx]
          unfold cstep
          rw [if_pos e]
          exact c.hit hq
      · rw [decide_eq_false (show ¬ V.str x = V.str m from fun z => e (by injection z))]
        obtain ⟨qs, q, eq, h1, h2⟩ := pair_last c.pair (fold_ne _)
        subst eq
        have hl := fold_last (m := m) (ws.take i)
        rw [List.length_take] at hl
        refine iteF ⟨_, rfl, 1, rfl, F, _, -1, .ref q, rfl, rfl, SqL.of c.hF, by rw [List.map_append]; exact atI_last _ _, .inl ⟨rfl, _, SqL.of h2⟩, _, rfl, q, _, _, rfl, rfl, h2, ?_, _, qs ++ [q], rfl, ?_⟩
        · rw [List.length_map]
          exact Nat.lt_of_le_of_lt (show _ ≤ 30000 by omega) (by decide)
        · rw [fold_step hx]
          unfold cstep
          rw [if_neg e]
          exact c.miss h1 h2
    · rintro σ H1 ⟨v, ps, rfl, c⟩
      rw [List.length_map, List.take_length, ← cut_fold] at c
      exact ⟨_, rfl, k F _ c.same c.ll⟩
end
end K99

/-! K99P4 -/
set_option Elab.async false
set_option linter.all false
set_option maxRecDepth 100000
set_option maxHeartbeats 1000000
namespace K99
open PySem L2 TL
open PyProof.Rows (envOfC)

/-- a comprehension over a list, each element told by its place -/
theorem lc_mapI {K : PySem.W.Frag} {a : Addr} {xs : List V} {i0 : Nat} {te : TE} {σ : L2.St} {H1 : Hp} {D : Addr} {Qd : Hp → Prop} (ds : List PyData) (hS : SqL K H1 a xs) (hD : H1 D = none) (hz : xs.length ≤ sizeLine) (hlen : ds.length = xs.length)
    (hs : ∀ (i : Nat) (x : V) (d : PyData) (H : Hp) (Q : VK), xs[i]? = some x → ds[i]? = some d → Same H1 H → (∀ (y : V) (H4 : Hp), Same H H4 → Tp H4 y d → Q y H4) → te ((σ.set i0 none).set i0 (some x)) H Q)
    (hd : ∀ (H : Hp) (acc : List V), Same H1 H → H D = some (.lst acc) → TpA H acc ds → Qd H) :
    ∃ W : Nat → Nat → Hp → Prop, (∃ k0, W 0 k0 (upd H1 D (.lst []))) ∧ ∀ i k0 H, W i k0 H →
      ((Itl K a).stop i H ∧ Qd H) ∨ ((Itl K a).go i H ∧ ∃ Nx : Hp → Prop, (∀ H', Nx H' → ∃ k1, k1 < k0 ∧ W (i + 1) k1 H') ∧ ∀ x H', (Itl K a).yld i H x H' → gName i0 x (wipe σ [i0]) H' fun σ2 H2 => wipe σ2 [i0] = wipe σ [i0] ∧ tYes σ2 H2 fun b H3 =>
        if b = true then te σ2 H3 fun y H4 => ∃ ac, H4 D = some (.lst ac) ∧ ac.length < sizeLine ∧ Nx (upd H4 D (.lst (ac ++ [y]))) else Nx H3) := by
  refine lc_list (K := K) (a := a) (xs := xs) (fun i H => Same H1 H ∧ ∃ acc, H D = some (.lst acc) ∧ TpA H acc (ds.take i)) ⟨same_own (Same.refl _) hD, [], upd_same, by rw [List.take_zero]; exact .nil⟩
    (fun i H _ p => p.1.seq hS) ?_ ?_
  · rintro i x H hi ⟨s1, acc, hacc, ht⟩
    have hlt : i < xs.length := (List.getElem?_eq_some_iff.mp hi).1
    have hl : acc.length = i := by
      rw [ht.length, List.length_take]
      omega
    have hdi : ds[i]? = some (ds[i]'(by omega)) := List.getElem?_eq_getElem _
    refine ⟨?_, ?_⟩
    · show ((σ.set i0 none).set i0 (some x)).set i0 none = σ.set i0 none
      rw [List.set_set, List.set_set]
    · unfold tYes
      dsimp only
      refine iteT ?_
      refine hs i x _ H _ hi hdi s1 fun y H4 s4 hy => ⟨acc, s4 _ _ hacc, by omega, ?_, acc ++ [y], upd_same, ?_⟩
      · exact same_own (s1.trans s4) hD
      · rw [List.take_succ, hdi]
        exact (TpA.le (Tle.lst (s4 _ _ hacc)) _ _ ((ht.same s4).snoc hy))
  · rintro H ⟨s1, acc, hacc, ht⟩
    rw [← hlen, List.take_length] at ht
    exact hd H acc s1 hacc ht

/-! ### data of words -/
def wsD (p : List Str) : PyData := .list (p.map .str)
theorem dp_strs {K : PySem.W.Frag} {H : Hp} : ∀ (ws : List Str), DpAll K H (ws.map V.str) (ws.map PyData.str)
  | [] => .nil
  | w :: ws => .cons (.str w) (dp_strs ws)
theorem Wl.dp {K : PySem.W.Frag} {H : Hp} {a : Addr} {ws : List Str} (h : Wl H a ws) : Dp K H (.ref a) (wsD ws) := .lst (SqL.of h) (dp_strs ws)
theorem dp_pairs {K : PySem.W.Frag} {H : Hp} : ∀ {ps : List Addr} {parts : List (List Str)}, Paired (WAt H) ps parts → DpAll K H (ps.map V.ref) (parts.map wsD)
  | _, _, .nil => .nil
  | _, _, .cons a b => .cons (Wl.dp a) (dp_pairs b)
theorem LL.dp {K : PySem.W.Frag} {H : Hp} {F : Addr} {parts : List (List Str)} (h : LL H F parts) : Dp K H (.ref F) (.list (parts.map wsD)) := by
  obtain ⟨ps, h1, h2⟩ := h
  exact .lst (SqL.of h1) (dp_pairs h2)
theorem shaped_of {d : PyData} (h : d.canLay0 = true) (h2 : d.depth ≤ 64) : SeqAt.shaped d = true := by
  show (d.canLay0 && decide (d.depth ≤ 64)) = true
  rw [h, decide_eq_true h2]
  rfl
theorem lay_all : ∀ {ds : List PyData}, (∀ d ∈ ds, d.canLay0 = true) → PyData.canLayAll0 ds = true
  | [], _ => by simp [PyData.canLayAll0]
  | d :: ds, h => by
    simp only [PyData.canLayAll0, h d List.mem_cons_self, lay_all fun e he => h e (List.mem_cons_of_mem _ he), Bool.and_self]
theorem depth_all {k : Nat} : ∀ {ds : List PyData}, (∀ d ∈ ds, d.depth ≤ k) → PyData.depthAll ds ≤ k
  | [], _ => by simp [PyData.depthAll]
  | d :: ds, h => by
    have h1 := h d List.mem_cons_self
    have h2 := depth_all fun e he => h e (List.mem_cons_of_mem _ he)
    simp only [PyData.depthAll]
    omega
theorem lay_ws {ws : List Str} (ok : WOk ws) : (wsD ws).canLay0 = true := by
  simp only [wsD, PyData.canLay0]
  refine lay_all fun d hd => ?_
  obtain ⟨w, hw, rfl⟩ := List.mem_map.mp hd
  exact (ok.short w hw).2
theorem depth_ws (ws : List Str) : (wsD ws).depth ≤ 1 := by
  have h : PyData.depthAll (ws.map PyData.str) ≤ 0 := depth_all fun d hd => by
    obtain ⟨w, hw, rfl⟩ := List.mem_map.mp hd
    simp [PyData.depth]
  simp only [wsD, PyData.depth]
  omega
theorem shaped_ws {ws : List Str} (ok : WOk ws) : SeqAt.shaped (wsD ws) = true := shaped_of (lay_ws ok) (Nat.le_trans (depth_ws ws) (by decide))
theorem shaped_parts {parts : List (List Str)} (h : ∀ p ∈ parts, WOk p) : SeqAt.shaped (.list (parts.map wsD)) = true := by
  refine shaped_of ?_ ?_
  · simp only [PyData.canLay0]
    refine lay_all fun d hd => ?_
    obtain ⟨p, hp, rfl⟩ := List.mem_map.mp hd
    exact lay_ws (h p hp)
  · have h : PyData.depthAll (parts.map wsD) ≤ 1 := depth_all fun d hd => by
      obtain ⟨w, hw, rfl⟩ := List.mem_map.mp hd
      exact depth_ws w
    simp only [PyData.depth]
    omega
theorem eqv_nil (p : List Str) : PyData.eqv (wsD p) (.list []) = p.isEmpty := by
  cases p <;> simp [wsD, PyData.eqv, PyData.eqvAll]
theorem any_nil (parts : List (List Str)) : ((parts.map wsD).any fun z => PyData.eqv z (.list [])) = parts.any (·.isEmpty) := by
  rw [List.any_map]
  congr 1
  funext p
  exact eqv_nil p
theorem eqv_none (d : PyData) : PyData.eqv d .none = isN d := by
  cases d <;> simp [PyData.eqv, isN]
/-- lists of small data -/
def Shp (d : PyData) : Prop := d.canLay0 = true ∧ d.depth ≤ 60
theorem Shp.list {ds : List PyData} (h : ∀ d ∈ ds, Shp d) : SeqAt.shaped (.list ds) = true := by
  refine shaped_of ?_ ?_
  · simp only [PyData.canLay0]
    exact lay_all fun d hd => (h d hd).1
  · have h : PyData.depthAll ds ≤ 60 := depth_all fun d hd => (h d hd).2
    simp only [PyData.depth]
    omega
theorem Shp.none : Shp .none := ⟨by simp [PyData.canLay0], by simp [PyData.depth]⟩
theorem Shp.tupI (ns : List Int) : Shp (K99.tupI ns) := by
  constructor
  · simp only [K99.tupI, PyData.canLay0]
    refine lay_all fun d hd => ?_
    obtain ⟨w, hw, rfl⟩ := List.mem_map.mp hd
    simp [PyData.canLay0]
  · have h : PyData.depthAll (ns.map PyData.int) ≤ 0 := depth_all fun d hd => by
      obtain ⟨w, hw, rfl⟩ := List.mem_map.mp hd
      simp [PyData.depth]
    simp only [K99.tupI, PyData.depth]
    omega
theorem Shp.numsD (o : Option (List Int)) : Shp (K99.numsD o) := by
  cases o with
  | none => exact Shp.none
  | some ns => exact Shp.tupI ns
/-- a promise over a row of words -/
def spW (G : List Str → PyData) : Sp := fun vs H Q _ => ∃ (a : Addr) (ws : List Str), vs = [.ref a] ∧ Wl H a ws ∧ WOk ws ∧ ∀ (v : V) (H' : Hp), Same H H' → Tp H' v (G ws) → Q v H'

section
variable {P : Program} {w : World} {K : PySem.W.Frag} {mg : Str → Option Value} {base : Heap} {D : Addr}
abbrev sPartsBehind : Stmt := top 15
theorem scPartsBehind : FnScope ["words", "mark", "parts", "word"] ["words", "mark"] (defScope sPartsBehind) := ⟨rfl, rfl, rfl, by decide +kernel, rfl, by decide +kernel, by decide +kernel⟩
def spBehind : Sp := fun vs H Q _ => ∃ (a : Addr) (ws : List Str) (m : Str), vs = [.ref a, .str m] ∧ Wl H a ws ∧ WOk ws ∧ ((cut m ws).headD [] ≠ [] → ∀ (H' : Hp), Same H H' → Q .non H') ∧
  ((cut m ws).headD [] = [] → ∀ (F : Addr) (H' : Hp), Same H H' → LL H' F (cut m ws).tail → Q (.ref F) H')
def pst (m : Str) (r : List Str) : Nat → List (List Str)
  | 0 => []
  | j + 1 => (r.take j).foldl (cstep m) [[]]
theorem pst_few {m : Str} {r : List Str} (i : Nat) : (pst m r i).length ≤ i := by
  cases i with
  | zero => exact Nat.le_refl _
  | succ j =>
    have h := fold_few (m := m) (r.take j)
    rw [List.length_take] at h
    have h2 : (pst m r (j + 1)).length ≤ min j r.length + 1 := h
    omega
theorem pst_hit {m : Str} {r : List Str} {i : Nat} {x : Str} (hx : (m :: r)[i]? = some x) (e : x = m) : pst m r (i + 1) = pst m r i ++ [[]] := by
  cases i with
  | zero => rfl
  | succ j =>
    have hx' : r[j]? = some x := hx
    show (r.take (j + 1)).foldl (cstep m) [[]] = (r.take j).foldl (cstep m) [[]] ++ [[]]
    rw [fold_step hx']
    exact if_pos e
theorem pst_miss {m : Str} {r : List Str} {i : Nat} {x : Str} (hx : (m :: r)[i]? = some x) (e : x ≠ m) : pst m r i ≠ [] ∧ ((pst m r i).getLastD []).length ≤ i ∧ pst m r (i + 1) = (pst m r i).dropLast ++ [(pst m r i).getLastD [] ++ [x]] := by
  cases i with
  | zero => exact absurd (Option.some.inj hx).symm e
  | succ j =>
    have hx' : r[j]? = some x := hx
    refine ⟨fold_ne _, ?_, ?_⟩
    · have h := fold_last (m := m) (r.take j)
      rw [List.length_take] at h
      have h2 : ((pst m r (j + 1)).getLastD []).length ≤ min j r.length := h
      omega
    · show (r.take (j + 1)).foldl (cstep m) [[]] = _
      rw [fold_step hx']
      exact if_neg e
theorem has_parts_behind (T : Txt K w mg D) : Has P w K mg base "parts_behind" ["words", "mark"] 1 spBehind := by
  refine T.d_parts_behind.has scPartsBehind (fun vs H Q E h => ?_) (fun f cdv A outer s H vs Q E hr h => ?_)
  · obtain ⟨a, ws, m, rfl, _⟩ := h
    rfl
  · obtain ⟨a, ws, m, rfl, ha, ok, k1, k2⟩ := h
    refine ⟨_, (pss_cons (ps_if (PW.pt (pw_and (pt_cmpR op_gt (pe_callB call_len_seq (by rfl) T.len PySem.boot_len (pa_cons (pv 0) pa_nil)) pe_int (nomark _)) (pw_and1 (pt_cmpR op_ne (pe_ix ix_list (pv 0) pe_int (fun _ _ => rfl)) (pv 1) (nomark _))))) (pss_one (ps_ret pe_non))
      pss_nil)
      (pss_cons (ps_set (i := 2) scPartsBehind.nd rfl (by first | exact Or.inl rfl | exact Or.inr rfl) (pe_lst pa_nil))
      (pss_cons (ps_for PassesOwn.never rfl (pi_list (pv 0)) (pg_name (i := 3) scPartsBehind.nd rfl (Or.inl rfl))
      (pss_one (ps_if (pt_cmpR op_eq (pv 3) (pv 1) (nomark _)) (pss_one (ps_expr (pe_bm PySem.F.plainAttrs_list PySem.F.slot_list_append PySem.F.type_list_append mt_append (pv 2) (pa_cons (pe_lst pa_nil) pa_nil))))
      (pss_one (ps_expr (pe_bm PySem.F.plainAttrs_list PySem.F.slot_list_append PySem.F.type_list_append mt_append (pe_ix ix_list (pv 2) (pe_un un_neg pe_int) (fun _ _ => rfl)) (pa_cons (pv 3) pa_nil)))))))
      (pss_one (ps_ret (pv 2)))))), ?_⟩
    refine ⟨_, rfl, a, _, rfl, .inl (SqL.of ha), _, _, rfl, rfl, _, rfl, ?_⟩
    have few := ok.few
    by_cases hmiss : (cut m ws).headD [] ≠ []
    · obtain ⟨x, r, rfl, hne⟩ : ∃ x r, ws = x :: r ∧ x ≠ m := by
        cases ws with
        | nil => exact absurd rfl hmiss
        | cons x r =>
          refine ⟨x, r, rfl, fun e => ?_⟩
          subst e
          exact hmiss (head_hit x r).1
      rw [decide_eq_true (show (0 : Int) < (((List.map V.str (x :: r)).length : Nat) : Int) by simp)]
      refine iteT ⟨_, rfl, a, _, 0, .str x, rfl, rfl, SqL.of ha, atI_nat (j := 0) rfl, _, rfl, rfl, _, rfl, ?_⟩
      rw [decide_eq_false (show ¬ V.str x = V.str m from fun z => hne (by injection z))]
      exact iteT (k1 hmiss H (Same.refl _))
    · have hh : (cut m ws).headD [] = [] := Classical.not_not.mp hmiss
      have k := k2 hh
      -- behind the test
      have key : ∃ r, (ws = [] ∨ ws = m :: r) ∧ (ws = [] → r = []) := by
        cases ws with
        | nil => exact ⟨[], .inl rfl, fun _ => rfl⟩
        | cons x r =>
          refine ⟨r, .inr ?_, fun z => by cases z⟩
          by_cases e : x = m
          · rw [e]
          · exact absurd hh (head_miss e r)
      obtain ⟨r, hr0, hr1⟩ := key
      apply ite_imp
      · intro c g
        have hw : ws = m :: r := by
          rcases hr0 with e | e
          · subst e
            exact absurd c (by decide)
          · exact e
        subst hw
        refine ⟨_, rfl, a, _, 0, .str m, rfl, rfl, SqL.of ha, atI_nat (j := 0) rfl, _, rfl, rfl, _, rfl, ?_⟩
        rw [decide_eq_true (show V.str m = V.str m from rfl)]
        refine iteF ?_
        exact g
      · intro c g
        refine iteF ?_
        exact g
      refine ⟨Nat.zero_le _, fun F hF => ?_⟩
      have c0 : CutSt H (upd H F (.lst [])) F [] [] := ⟨same_new hF, hF, upd_same, fun _ h => (by cases h), List.nodup_nil, (by simp), .nil⟩
      refine ⟨_, rfl, a, rfl, ⟨_, SqL.of (ha.same c0.same)⟩, for_list (K := K) (a := a) (xs := ws.map V.str) (fun i σ H' => ∃ (v : Option V) (ps : List Addr), σ = [some (.ref a), some (.str m), some (.ref F), v] ∧ CutSt H H' F ps (pst m r i))
        ⟨none, [], rfl, c0⟩ (fun i σ H' _ ⟨_, _, _, c⟩ => SqL.of (ha.same c.same)) ?_ ?_⟩
      · rintro i x σ H1 hi ⟨v, ps, rfl, c⟩
        obtain ⟨x, rfl, hx, hm⟩ := str_at hi
        have hw : ws = m :: r := by
          rcases hr0 with e | e
          · subst e
            cases hx
          · exact e
        have hlt : i < ws.length := (List.getElem?_eq_some_iff.mp hx).1
        rw [hw] at hx
        refine ⟨_, rfl, _, rfl, rfl, _, rfl, ?_⟩
        by_cases e : x = m
        · rw [decide_eq_true (show V.str x = V.str m by rw [e])]
          refine iteT ⟨_, rfl, .inl ⟨rfl, _, SqL.of c.hF⟩, Nat.zero_le _, fun q hq => ?_⟩
          have nq : F ≠ q := fun z => by
            rw [← z, c.hF] at hq
            cases hq
          have hl := pst_few (m := m) (r := r) i
          refine ⟨F, _, _, rfl, rfl, by rw [upd_ne nq]; exact c.hF, ?_, _, ps ++ [q], rfl, ?_⟩
          · rw [List.length_map, pair_len c.pair]
            exact Nat.lt_of_le_of_lt (show _ ≤ 30001 by omega) (by decide)
          · rw [pst_hit hx e]
            exact c.hit hq
        · rw [decide_eq_false (show ¬ V.str x = V.str m from fun z => e (by injection z))]
          obtain ⟨n1, n2, n3⟩ := pst_miss hx e
          obtain ⟨qs, q, eq, h1, h2⟩ := pair_last c.pair n1
          subst eq
          refine iteF ⟨_, rfl, 1, rfl, F, _, -1, .ref q, rfl, rfl, SqL.of c.hF, by rw [List.map_append]; exact atI_last _ _, .inl ⟨rfl, _, SqL.of h2⟩, _, rfl, q, _, _, rfl, rfl, h2, ?_, _, qs ++ [q], rfl, ?_⟩
          · rw [List.length_map]
            exact Nat.lt_of_le_of_lt (show _ ≤ 30000 by omega) (by decide)
          · rw [n3]
            exact c.miss h1 h2
      · rintro σ H1 ⟨v, ps, rfl, c⟩
        rw [List.length_map] at c
        refine ⟨_, rfl, k F _ c.same ?_⟩
        have e : pst m r ws.length = (cut m ws).tail := by
          rcases hr0 with e | e
          · rw [e]
            rfl
          · rw [e, (head_hit m r).2, cut_fold]
            show (r.take r.length).foldl _ _ = _
            rw [List.take_length]
        rw [← e]
        exact c.ll

abbrev sReadTable : Stmt := top 16
theorem scReadTable : FnScope ["words", "parts", "rows", "part"] ["words"] (defScope sReadTable) := ⟨rfl, rfl, rfl, by decide +kernel, rfl, by decide +kernel, by decide +kernel⟩
theorem has_read_table (T : Txt K w mg D) : Has P w K mg base "read_table" ["words"] 3 (spW tableD) := by
  have h_parts_behind : Has P w K mg base "parts_behind" ["words", "mark"] 1 spBehind := has_parts_behind T
  have h_read_numbers : Has P w K mg base "read_numbers" ["words"] 2 spNums := has_read_numbers T
  refine T.d_read_table.has scReadTable (fun vs H Q E h => ?_) (fun f cdv A outer s H vs Q E hr h => ?_)
  · obtain ⟨a, ws, rfl, _⟩ := h
    rfl
  · obtain ⟨a, ws, rfl, ha, ok, k⟩ := h
    refine ⟨_, (pss_cons (ps_set (i := 1) scReadTable.nd rfl (by first | exact Or.inl rfl | exact Or.inr rfl) (pe_has h_parts_behind (hr.mono (by decide)) (pa_cons (pv 0) (pa_cons pe_str pa_nil))))
      (pss_cons (ps_if (PW.pt (pw_or (pt_cmpR op_isN (pv 1) pe_non (nomark _)) (pw_or1 (pt_cmpR (op_inD (hu65 hr)) (pe_lst pa_nil) (pv 1) (by rfl))))) (pss_one (ps_ret pe_non))
      pss_nil)
      (pss_cons (ps_setLc (i := 2) (own := [("part", 3)]) rfl scReadTable.nd rfl rfl (sw_true rfl rfl rfl (by decide +kernel)) (pi_list (pv 1)) (blkOk_by (own := [("part", 3)]) (N := ["words", "parts", "rows", "part"]) (sc := defScope sReadTable) (by decide +kernel)) (fun _ _ _ _ _ => pg_name (i := 3) scReadTable.nd rfl (Or.inl rfl)) (fun _ _ _ _ _ => pts_nil) (fun _ _ _ _ _ => (pe_has h_read_numbers (hr.mono (by decide)) (pa_cons (pv 3) pa_nil))))
      (pss_one (ps_ret (pe_ifExp (pt_cmpR (op_inD (hu65 hr)) pe_non (pv 2) (by rfl)) pe_non (pe_tup (pa_cons pe_str (pa_cons (pe_callTy call_tuple_of (by rfl) T.tuple (by decide +kernel) (pa_cons (pv 2) pa_nil)) pa_nil))))))))), ?_⟩
    refine ⟨_, rfl, a, ws, _, rfl, ha, ok, fun hne H1 s1 => ?_, fun he F H1 s1 hL => ?_⟩
    · refine ⟨_, rfl, rfl, _, rfl, iteT (iteT (k _ _ s1 ?_))⟩
      unfold tableD
      rw [if_pos hne]
      exact .non
    · have okp : ∀ p ∈ (cut ("row" : Str) ws).tail, WOk p := fun p hp => ok.part (List.mem_of_mem_tail hp)
      have few : (cut ("row" : Str) ws).tail.length ≤ 30000 := by
        rw [List.length_tail, cut_length]
        have := List.count_le_length (a := ("row" : Str)) (l := ws)
        have := ok.few
        omega
      have hT : tableD ws = if (cut ("row" : Str) ws).tail.all (fun p => (nums p).isSome && !p.isEmpty) = true then .tuple [.str "table", .tuple ((cut ("row" : Str) ws).tail.map fun p => tupI (p.map intOf))] else .none := by
        unfold tableD
        rw [if_neg (fun z => z he)]
      rw [hT] at k
      generalize hps : (cut ("row" : Str) ws).tail = parts at k hL okp few
      refine ⟨_, rfl, rfl, _, rfl, iteF ⟨Nat.zero_le _, fun q hq => ⟨_, rfl, .list [], parts.map wsD, .lst (SqL.of upd_same) .nil, (hL.same (same_new hq)).dp, by decide +kernel, shaped_parts okp, _, rfl, ?_⟩⟩⟩
      rw [any_nil]
      have s2 := s1.trans (same_new (o := .lst []) hq)
      by_cases c1 : parts.any (·.isEmpty) = true
      · rw [c1]
        refine iteT (k _ _ s2 ?_)
        obtain ⟨p, hp, hpe⟩ := List.any_eq_true.mp c1
        rw [if_neg fun z => by
          have := List.all_eq_true.mp z p hp
          rw [hpe] at this
          simp at this]
        exact .non
      · have c1 : parts.any (·.isEmpty) = false := Bool.eq_false_iff.mpr c1
        rw [c1]
        refine iteF ?_
        obtain ⟨ps, hF, hP⟩ := hL.same (same_new (o := .lst []) hq)
        have hpl := pair_len hP
        refine ⟨_, rfl, F, rfl, ⟨_, SqL.of hF⟩, fun D1 hD1 => lc_mapI (K := K) (parts.map fun p => numsD (nums p)) (SqL.of hF) hD1 ?_ ?_ ?_ ?_⟩
        · rw [List.length_map]
          exact big (by omega)
        · rw [List.length_map, List.length_map]
          exact hpl.symm
        · intro i x d H2 Q2 hi hdi s3 k3
          rw [List.getElem?_map] at hi hdi
          cases e1 : ps[i]? with
          | none =>
            rw [e1] at hi
            cases hi
          | some p =>
            rw [e1] at hi
            cases hi
            obtain ⟨us, e2, hu⟩ := pair_get hP e1
            rw [e2] at hdi
            cases hdi
            exact ⟨_, rfl, p, us, rfl, hu.same s3, okp us (List.mem_of_getElem? e2), fun v H4 s4 ht => k3 v H4 s4 ht⟩
        · intro H2 acc s3 hacc ht
          have s4 := s2.trans s3
          refine ⟨_, rfl, .none, _, .non, .lst (SqL.of hacc) (TpA.dp _ _ ht), by decide +kernel, Shp.list fun d hd => ?_, _, rfl, ?_⟩
          · obtain ⟨p, hp, rfl⟩ := List.mem_map.mp hd
            exact Shp.numsD _
          · have ea : ((parts.map fun p => numsD (nums p)).any fun z => PyData.eqv z .none) = !parts.all (fun p => (nums p).isSome) := by
              rw [List.any_map, List.not_all_eq_any_not]
              congr 1
              funext p
              show PyData.eqv (numsD (nums p)) .none = !(nums p).isSome
              rw [eqv_none]
              cases nums p <;> rfl
            rw [ea]
            by_cases c2 : parts.all (fun p => (nums p).isSome) = true
            · rw [c2]
              refine iteF ⟨_, rfl, D1, _, rfl, .inl ⟨SqL.of hacc, fun l hl => ⟨by show 2 ≤ sizeLine; decide, fun t ht' => k _ _ (s4.trans ((same_new hl).trans (same_new ht'))) ?_⟩⟩⟩
              have e3 : parts.all (fun p => (nums p).isSome && !p.isEmpty) = true := List.all_eq_true.mpr fun p hp => by
                rw [List.all_eq_true.mp c2 p hp]
                have := List.any_eq_false.mp c1 p hp
                simpa using this
              rw [if_pos e3]
              have em : (parts.map fun p => numsD (nums p)) = parts.map fun p => tupI (p.map intOf) := List.map_congr_left fun p hp => by
                have h1 := List.all_eq_true.mp c2 p hp
                cases h2 : nums p with
                | none =>
                  rw [h2] at h1
                  cases h1
                | some ns =>
                  rw [(nums_some h2).2.1]
                  rfl
              rw [em] at ht
              have sN := (same_new (o := .tup acc) hl).trans (same_new (o := .tup [V.str "table", V.ref l]) ht')
              exact .tup upd_same (.cons (.str _) (.cons (.tup (by rw [upd_ne (fun z => by rw [← z, upd_same] at ht'; cases ht')]; exact upd_same) (ht.same sN)) .nil))
            · have c2 : parts.all (fun p => (nums p).isSome) = false := by simpa using c2
              rw [c2]
              refine iteT (k _ _ s4 ?_)
              rw [if_neg fun z => ?_]
              · exact .non
              · have : parts.all (fun p => (nums p).isSome) = true := List.all_eq_true.mpr fun p hp => by
                  have := List.all_eq_true.mp z p hp
                  rw [Bool.and_eq_true] at this
                  exact this.1
                rw [c2] at this
                cases this
end
end K99

/-! K99R -/
set_option Elab.async false
set_option linter.all false
set_option maxRecDepth 100000
set_option maxHeartbeats 1000000
/-! Rules that the layer lacks: list.count of flat items; not in a written dict. -/
namespace K99
open PySem L2
open PyProof.Rows (envOfC)
section
variable {X : Cx}
theorem countU {y : V} : ∀ {xs : List V} {us : List Value}, Vals xs us → xs.all flatV = true → us.countP (eqU y) = xs.countP fun z => eqV z y
  | _, _, .nil, _ => rfl
  | x :: xs, u :: us, .cons r t, f => by
    rw [List.all_cons, Bool.and_eq_true] at f
    rw [List.countP_cons, List.countP_cons, countU t f.2, eqU_of r f.1]
def rCountV (K : PySem.W.Frag) : V → List V → Hp → VK → Prop := fun x vs H Q => ∃ (p : Addr) (ys : List V) (y : V), x = .ref p ∧ vs = [y] ∧ SqL K H p ys ∧ flatV y = true ∧ ys.all flatV = true ∧ Q (.int ((ys.countP fun z => eqV z y : Nat) : Int)) H
theorem mt_countS : MtR X "list.count" (rCountV X.K) := by
  intro pins s σ H x vs v us Q I rx rvs hh
  obtain ⟨p, ys, y, ex, ev, hs, fy, fs, q⟩ := hh
  subst ex
  subst ev
  obtain rfl : v = Value.ref p := (show v = Value.ref p from rx)
  cases rvs with
  | cons ry rt =>
    rename_i uy ut
    cases rt
    obtain ⟨its, rv, ⟨ob, n, ho, hc, hdn, hd⟩, hlen⟩ := I.list hs
    obtain ⟨oc, od, oda, osl⟩ := ob
    simp only at hc hd
    subst hc hd
    refine call_meets PySem.F.slot_list_count (show _ from ⟨_, ho, rfl⟩) PySem.F.entry_list_count (PySem.F.args_list_count_2 _ _)
      (SeqAt.list_countAt p its.toArray n od osl uy (eqU y)) ⟨ho, fun z hz => mem_eqAt ry fy rv fs z (by simpa using hz), ?_⟩
    have ec : its.toArray.toList.countP (eqU y) = ys.countP fun z => eqV z y := countU rv fs
    refine ⟨.int _, H, I.tok _, ⟨s.toks, ?_⟩, q⟩
    rw [ec]
/-- a text is not a key of a dict of the module -/
def KHas (K : PySem.W.Frag) (w : World) (a : Addr) (x : Str) (b : Bool) : Prop :=
  ∃ es n r, K.lookup a = some ⟨.type "dict", none, .dict es n, #[]⟩ ∧ PySem.W.KeysLit w.params es.toList ∧ PySem.W.nsIn K a x = some r ∧ r.isSome = b ∧ (a == sysModules) = false
def rNotInKD (K : PySem.W.Frag) (w : World) : R2 := fun x y H Q => ∃ p z b, x = .str z ∧ y = .ref p ∧ KHas K w p z b ∧ Q (.bl (!b)) H
theorem op_notInKD : OpR X (compareOp .NotIn) (rNotInKD X.K X.w) := by
  intro pins s σ H x y v u Q I rx ry hh
  obtain ⟨p, z, b, ex, ey, ⟨es, n, r, hl, hk, e, eb, lo⟩, q⟩ := hh
  subst ex
  subst ey
  obtain rfl : u = Value.ref p := ry
  obtain ⟨t, rfl⟩ := (show ∃ t, v = Value.str z t from rx)
  have hm := PySem.W.mapOf_K (prog := X.prog) (w := X.w) (I.kIn) hl hk
  refine wpAny_notIn_of (strKind_is X.prog X.w z t) lo hm ?_
  rw [PySem.W.find_K hl e, eb]
  exact ⟨.bl _, H, I.tok _, rfl, q⟩
end
/-! ### of texts -/
theorem flat_strs (ws : List Str) : (ws.map V.str).all flatV = true := List.all_eq_true.mpr fun v hv => by
  obtain ⟨w, _, rfl⟩ := List.mem_map.mp hv
  rfl
theorem eqV_str (a b : Str) : eqV (.str a) (.str b) = (a == b) := rfl
theorem count_strs (ws : List Str) (m : Str) : (ws.map V.str).countP (fun z => eqV z (.str m)) = ws.count m := by
  rw [List.countP_map]
  rfl
theorem in_strs (ws : List Str) (m : Str) : inV (.str m) (ws.map V.str) = decide (m ∈ ws) := by
  unfold inV
  rw [List.any_map]
  have e : ((fun y => eqV y (V.str m)) ∘ V.str) = fun w => w == m := rfl
  rw [e]
  by_cases h : m ∈ ws
  · rw [decide_eq_true h]
    exact List.any_eq_true.mpr ⟨m, h, by simp⟩
  · rw [decide_eq_false h]
    refine Bool.eq_false_iff.mpr fun z => ?_
    obtain ⟨w, hw, e⟩ := List.any_eq_true.mp z
    exact h (eq_of_beq e ▸ hw)
theorem idx_at {ws : List Str} {m : Str} (h : m ∈ ws) : (ws.map V.str)[ws.idxOf m]? = some (.str m) ∧ eqV (.str m) (.str m) = true ∧ ∀ (k : Nat) (z : V), k < ws.idxOf m → (ws.map V.str)[k]? = some z → eqV z (.str m) = false := by
  have hlt := List.idxOf_lt_length_of_mem h
  refine ⟨?_, by rw [eqV_str]; simp, fun k z hk hz => ?_⟩
  · rw [List.getElem?_map, List.getElem?_eq_getElem hlt, List.getElem_idxOf]
    rfl
  · rw [List.getElem?_map, List.getElem?_eq_getElem (show k < ws.length by omega)] at hz
    have e := Option.some.inj hz
    subst e
    rw [eqV_str]
    refine beq_eq_false_iff_ne.mpr fun e => ?_
    refine (idx_split h).1 (List.mem_of_getElem? (i := k) ?_)
    rw [List.getElem?_take_of_lt hk, List.getElem?_eq_getElem (show k < ws.length by omega), e]
end K99

/-! K99P5 -/
set_option Elab.async false
set_option linter.all false
set_option maxRecDepth 100000
set_option maxHeartbeats 1000000
namespace K99
open PySem L2 TL
open PyProof.Rows (envOfC)

/-! ### slices of rows of words -/
theorem slW {K : PySem.W.Frag} {H : Hp} {a : Addr} {ws us : List Str} {lo hi : Option Int} {Q : VK} (ha : Wl H a ws) (e : cutV (ws.map V.str) lo hi = us.map V.str) (k : ∀ (p : Addr) (H' : Hp), Same H H' → Wl H' p us → Q (.ref p) H') : rSlL K (.ref a) lo hi H Q :=
  ⟨a, _, rfl, SqL.of ha, fun p hp => k p _ (same_new hp) (by rw [e]; exact upd_same)⟩
/-- .. to the end -/
theorem slWn {K : PySem.W.Frag} {H : Hp} {a : Addr} {ws us : List Str} {lo : Option Int} {Q : VK} {σ : L2.St} (ha : Wl H a ws) (e : cutV (ws.map V.str) lo none = us.map V.str) (k : ∀ (p : Addr) (H' : Hp), Same H H' → Wl H' p us → Q (.ref p) H') : tNoPart σ H (fun u H3 => rSlL K (.ref a) lo u H3 Q) :=
  slW ha e k
theorem cut_fromE {α : Type} (f : α → V) (ws : List α) {i : Int} {n : Nat} (h : i = (n : Int)) : cutV (ws.map f) (some i) none = (ws.drop n).map f := by
  subst h
  exact cut_from f ws n
theorem cut_toE {α : Type} (f : α → V) (ws : List α) {i : Int} {n : Nat} (h : i = (n : Int)) : cutV (ws.map f) none (some i) = (ws.take n).map f := by
  subst h
  exact cut_to f ws n
theorem cut_midE {α : Type} (f : α → V) (ws : List α) {i j : Int} {n m : Nat} (h : i = (n : Int)) (h2 : j = (m : Int)) : cutV (ws.map f) (some i) (some j) = ((ws.take m).drop n).map f := by
  subst h h2
  exact cut_mid f ws n m
theorem eqvA_ws : ∀ (a b : List Str), PyData.eqvAll (a.map PyData.str) (b.map PyData.str) = decide (a = b)
  | [], [] => by simp [PyData.eqvAll]
  | [], _ :: _ => by simp [PyData.eqvAll]
  | _ :: _, [] => by simp [PyData.eqvAll]
  | x :: a, y :: b => by
    rw [List.map_cons, List.map_cons]
    simp only [PyData.eqvAll, PyData.eqv, eqvA_ws a b]
    by_cases h : x = y
    · subst h
      simp
    · simp [h]
theorem eqv_ws (a b : List Str) : PyData.eqv (wsD a) (wsD b) = decide (a = b) := by
  simp only [wsD, PyData.eqv]
  exact eqvA_ws a b
theorem of_at (p : List Str) : ((p.take 2).drop 1 = [("of" : Str)]) ↔ p[1]? = some ("of" : Str) := by
  match p with
  | [] => simp
  | [a] => simp
  | a :: b :: r => simp
/-! ### groups -/
def gD (p : List Str) : PyData := grpD ((group p).getD ([], 0))
theorem group_no {p : List Str} (h : p.length < 3 ∨ p[1]? ≠ some ("of" : Str)) : group p = none := if_pos h
theorem group_yes {p : List Str} (h : ¬ (p.length < 3 ∨ p[1]? ≠ some ("of" : Str))) : group p = (nums (p.take 1 ++ p.drop 2)).map fun ns => (ns.tail, ns.headD 0) := if_neg h
theorem groups_no {ps : List (List Str)} {p : List Str} (hp : p ∈ ps) (h : group p = none) : groups ps = none := by
  unfold groups
  rw [if_neg fun z => by
    have := List.all_eq_true.mp z p hp
    rw [h] at this
    cases this]
theorem groups_yes {ps : List (List Str)} (h : ∀ p ∈ ps, (group p).isSome = true) : groupsD (groups ps) = .tuple (ps.map gD) := by
  unfold groups
  rw [if_pos (List.all_eq_true.mpr h)]
  show PyData.tuple ((ps.map _).map grpD) = _
  rw [List.map_map]
  rfl
theorem WOk.app {ws : List Str} (h : WOk ws) : WOk (ws.take 1 ++ ws.drop 2) := h.sub (by
  rw [List.length_append, List.length_take, List.length_drop]
  have := h.few
  omega) fun w hw => (List.mem_append.mp hw).elim List.mem_of_mem_take List.mem_of_mem_drop
/-- the state of a loop that fills a list with data -/
structure FillSt (H1 H : Hp) (G : Addr) (acc : List V) (ds : List PyData) : Prop where
  same : Same H1 H
  g0 : H1 G = none
  hG : H G = some (.lst acc)
  tp : TpA H acc ds
theorem FillSt.push {H1 H H2 : Hp} {G : Addr} {acc : List V} {ds : List PyData} {v : V} {d : PyData} (c : FillSt H1 H G acc ds) (s : Same H H2) (h : Tp H2 v d) : FillSt H1 (upd H2 G (.lst (acc ++ [v]))) G (acc ++ [v]) (ds ++ [d]) :=
  ⟨same_own (c.same.trans s) c.g0, c.g0, upd_same, TpA.le (Tle.lst (s _ _ c.hG)) _ _ ((c.tp.same s).snoc h)⟩
theorem ptr_ne {H : Hp} {p q : Addr} {o : HO} (hq : upd H p o q = none) : p ≠ q := fun z => by
  rw [← z, upd_same] at hq
  cases hq
theorem take_map_succ {α β : Type} {l : List α} {i : Nat} {x : α} (h : l[i]? = some x) (f : α → β) : (l.take (i + 1)).map f = (l.take i).map f ++ [f x] := by
  rw [List.take_succ, h, List.map_append]
  rfl
theorem ref_at {ps : List Addr} {i : Nat} {x : V} (h : (ps.map V.ref)[i]? = some x) : ∃ p, x = .ref p ∧ ps[i]? = some p := by
  rw [List.getElem?_map] at h
  cases e : ps[i]? with
  | none =>
    rw [e] at h
    cases h
  | some w =>
    rw [e] at h
    exact ⟨w, (Option.some.inj h).symm, rfl⟩
/-- (numbers[1:], numbers[0]) -/
theorem grp_pair {H H4 : Hp} {ns : List Int} {t p2 : Addr} {c : Int} (ht : H t = none) (hp : (upd H t (.tup ((ns.drop 1).map V.int))) p2 = none) (hc : ns.headD 0 = c) :
    Tp (upd (upd H t (.tup ((ns.drop 1).map V.int))) p2 (.tup [.ref t, .int c])) (.ref p2) (grpD (ns.tail, ns.headD 0)) := by
  have hne := ptr_ne hp
  refine .tup upd_same (.cons ?_ (.cons ?_ .nil))
  · have e : ns.drop 1 = ns.tail := by simp
    rw [e]
    exact Tp.ofI (by rw [upd_ne hne]; exact upd_same)
  · rw [hc]
    exact .int _

section
variable {P : Program} {w : World} {K : PySem.W.Frag} {mg : Str → Option Value} {base : Heap} {D : Addr}
abbrev sReadGroups : Stmt := top 18
theorem scReadGroups : FnScope ["words", "parts", "groups", "part", "numbers"] ["words"] (defScope sReadGroups) := ⟨rfl, rfl, rfl, by decide +kernel, rfl, by decide +kernel, by decide +kernel⟩
def groupsP (ws : List Str) : PyData := if (cut ("cap" : Str) ws).headD [] ≠ [] then .none else groupsD (groups (cut ("cap" : Str) ws).tail)
theorem has_read_groups (T : Txt K w mg D) : Has P w K mg base "read_groups" ["words"] 3 (spW groupsP) := by
  have h_parts_behind : Has P w K mg base "parts_behind" ["words", "mark"] 1 spBehind := has_parts_behind T
  have h_read_numbers : Has P w K mg base "read_numbers" ["words"] 2 spNums := has_read_numbers T
  refine T.d_read_groups.has scReadGroups (fun vs H Q E h => ?_) (fun f cdv A outer s H vs Q E hr h => ?_)
  · obtain ⟨a, ws, rfl, _⟩ := h
    rfl
  · obtain ⟨a, ws, rfl, ha, ok, k⟩ := h
    refine ⟨_, (pss_cons (ps_set (i := 1) scReadGroups.nd rfl (by first | exact Or.inl rfl | exact Or.inr rfl) (pe_has h_parts_behind (hr.mono (by decide)) (pa_cons (pv 0) (pa_cons pe_str pa_nil))))
      (pss_cons (ps_if (pt_cmpR op_isN (pv 1) pe_non (nomark _)) (pss_one (ps_ret pe_non))
      pss_nil)
      (pss_cons (ps_set (i := 2) scReadGroups.nd rfl (by first | exact Or.inl rfl | exact Or.inr rfl) (pe_lst pa_nil))
      (pss_cons (ps_for PassesOwn.never rfl (pi_list (pv 1)) (pg_name (i := 3) scReadGroups.nd rfl (Or.inl rfl))
      (pss_cons (ps_if (PW.pt (pw_or (pt_cmpR (op_neD (hu64 hr)) (pe_slice sl_list (pv 3) (po_some pe_int) (po_some pe_int)) (pe_lst (pa_cons pe_str pa_nil)) (nomark _)) (pw_or1 (pt_cmpR op_lt (pe_callB call_len_seq (by rfl) T.len PySem.boot_len (pa_cons (pv 3) pa_nil)) pe_int (nomark _))))) (pss_one (ps_ret pe_non))
      pss_nil)
      (pss_cons (ps_set (i := 4) scReadGroups.nd rfl (by first | exact Or.inl rfl | exact Or.inr rfl) (pe_has h_read_numbers (hr.mono (by decide)) (pa_cons (pe_op op_cat (pe_slice sl_list (pv 3) po_none (po_some pe_int)) (pe_slice sl_list (pv 3) (po_some pe_int) po_none)) pa_nil)))
      (pss_cons (ps_if (pt_cmpR op_isN (pv 4) pe_non (nomark _)) (pss_one (ps_ret pe_non))
      pss_nil)
      (pss_one (ps_expr (pe_bm PySem.F.plainAttrs_list PySem.F.slot_list_append PySem.F.type_list_append mt_append (pv 2) (pa_cons (pe_tup (pa_cons (pe_slice sl_tup (pv 4) (po_some pe_int) po_none) (pa_cons (pe_ix ix_tup (pv 4) pe_int (fun _ _ => rfl)) pa_nil))) pa_nil))))))))
      (pss_one (ps_ret (pe_callTy call_tuple_of (by rfl) T.tuple (by decide +kernel) (pa_cons (pv 2) pa_nil)))))))), ?_⟩
    refine ⟨_, rfl, a, ws, _, rfl, ha, ok, fun hne H1 s1 => ?_, fun he F H1 s1 hL => ?_⟩
    · refine ⟨_, rfl, rfl, _, rfl, iteT (k _ _ s1 ?_)⟩
      unfold groupsP
      rw [if_pos hne]
      exact .non
    · have okp : ∀ p ∈ (cut ("cap" : Str) ws).tail, WOk p := fun p hp => ok.part (List.mem_of_mem_tail hp)
      have few : (cut ("cap" : Str) ws).tail.length ≤ 30000 := by
        rw [List.length_tail, cut_length]
        have := List.count_le_length (a := ("cap" : Str)) (l := ws)
        have := ok.few
        omega
      have hT : groupsP ws = groupsD (groups (cut ("cap" : Str) ws).tail) := if_neg (fun z => z he)
      rw [hT] at k
      generalize hps : (cut ("cap" : Str) ws).tail = parts at k hL okp few
      refine ⟨_, rfl, rfl, _, rfl, iteF ⟨Nat.zero_le _, fun G hG => ?_⟩⟩
      have hL2 := hL.same (same_new (o := .lst []) hG)
      obtain ⟨ps, hF, hP⟩ := hL
      have hpl := pair_len hP
      refine ⟨_, rfl, F, rfl, ⟨_, SqL.of (same_new hG _ _ hF)⟩, for_list (K := K) (a := F) (xs := ps.map V.ref) (fun i σ H' => ∃ (v4 v5 : Option V) (acc : List V), σ = [some (.ref a), some (.ref F), some (.ref G), v4, v5] ∧ FillSt H1 H' G acc ((parts.take i).map gD) ∧ ∀ p ∈ parts.take i, (group p).isSome = true)
        ⟨none, none, [], rfl, ⟨same_new hG, hG, upd_same, by rw [List.take_zero]; exact .nil⟩, fun p hp => by rw [List.take_zero] at hp; cases hp⟩ (fun i σ H' _ ⟨_, _, _, _, c, _⟩ => SqL.of (c.same _ _ hF)) ?_ ?_⟩
      · rintro i x σ H2 hi ⟨v4, v5, acc, rfl, c, hall⟩
        obtain ⟨p, rfl, hpi⟩ := ref_at hi
        obtain ⟨us, hus, hu⟩ := pair_get hP hpi
        have hum : us ∈ parts := List.mem_of_getElem? hus
        have oku := okp us hum
        have hu2 : Wl H2 p us := hu.same c.same
        have hlt : i < parts.length := (List.getElem?_eq_some_iff.mp hus).1
        have no : group us = none → ∀ H3, Same H2 H3 → Q .non H3 := fun hg H3 s3 => k _ _ (s1.trans (c.same.trans s3)) (by rw [groups_no hum hg]; exact .non)
        refine ⟨_, rfl, 1, rfl, 2, rfl, slW hu2 (cut_midE V.str us (n := 1) (m := 2) rfl rfl) fun q3 H3 s3 hq3 => ?_⟩
        refine ⟨by show 1 ≤ sizeLine; decide, fun q4 hq4 => ?_⟩
        have s4 := s3.trans (same_new (o := .lst [V.str "of"]) hq4)
        refine ⟨_, _, Wl.dp (hq3.same (same_new hq4)), Wl.dp (ws := ["of"]) upd_same, shaped_ws ((oku.take 2).drop 1), by decide +kernel, _, rfl, ?_⟩
        rw [eqv_ws]
        by_cases c1 : us[1]? = some ("of" : Str)
        · rw [decide_eq_true ((of_at us).mpr c1)]
          refine iteF ⟨_, rfl, p, _, rfl, .inl (SqL.of (hu2.same s4)), _, _, rfl, rfl, _, rfl, ?_⟩
          rw [List.length_map]
          by_cases c2 : us.length < 3
          · rw [decide_eq_true (show ((us.length : Nat) : Int) < 3 by omega)]
            exact iteT (no (group_no (.inl c2)) _ s4)
          · rw [decide_eq_false (show ¬ ((us.length : Nat) : Int) < 3 by omega)]
            have hgy := group_yes (p := us) fun z => z.elim c2 fun z => z c1
            refine iteF ⟨_, rfl, 1, rfl, slW (hu2.same s4) (cut_toE V.str us (n := 1) rfl) fun q5 H5 s5 hq5 => ⟨_, rfl, 2, rfl, slWn (hu2.same (s4.trans s5)) (cut_fromE V.str us (i := 2) (n := 2) rfl) fun q6 H6 s6 hq6 => ?_⟩⟩
            refine ⟨q5, q6, _, _, rfl, rfl, hq5.same s6, hq6, ?_, fun q7 hq7 => ?_⟩
            · rw [List.length_map, List.length_map, List.length_take, List.length_drop]
              have := oku.few
              exact big (by omega)
            · have s7 := (s4.trans (s5.trans s6)).trans (same_new (o := .lst ((us.take 1).map V.str ++ (us.drop 2).map V.str)) hq7)
              refine ⟨q7, us.take 1 ++ us.drop 2, rfl, by rw [← List.map_append]; exact upd_same, oku.app, fun v H8 s8 ht => ?_⟩
              cases hn : nums (us.take 1 ++ us.drop 2) with
              | none =>
                rw [hn] at ht hgy
                cases ht
                exact ⟨_, rfl, rfl, _, rfl, iteT (no hgy _ (s7.trans s8))⟩
              | some ns =>
                rw [hn] at ht hgy
                obtain ⟨q, rfl, hq⟩ := ht.tupI
                have hl := (nums_some hn).2.2
                rw [List.length_append, List.length_take, List.length_drop] at hl
                have hl2 : 2 ≤ ns.length := by omega
                refine ⟨_, rfl, rfl, _, rfl, iteF ?_⟩
                have s9 := s7.trans s8
                have hG9 := s9 _ _ c.hG
                have hx0 : (ns.map V.int)[0]? = some (.int (ns.headD 0)) := by
                  cases ns with
                  | nil => simp at hl2
                  | cons z r => rfl
                refine ⟨_, rfl, .inl ⟨rfl, _, SqL.of hG9⟩, _, rfl, 1, rfl, q, _, rfl, SqT.of hq, ?_, fun t ht2 => ?_⟩
                · intro z
                  have z1 := z.1
                  rw [show (some (1 : Int)) = some (((1 : Nat) : Int)) from rfl, sI, List.length_map] at z1
                  omega
                · have e1 := cut_fromE V.int ns (i := 1) (n := 1) rfl
                  rw [e1]
                  have sT := same_new (o := .tup ((ns.drop 1).map V.int)) ht2
                  refine ⟨_, rfl, q, _, 0, .int (ns.headD 0), rfl, rfl, SqT.of (sT _ _ hq), atI_nat (j := 0) hx0, by show 2 ≤ sizeLine; decide, fun p2 hp2 => ?_⟩
                  have s10 := s9.trans (sT.trans (same_new (o := .tup [.ref t, .int (ns.headD 0)]) hp2))
                  refine ⟨G, _, _, rfl, rfl, s10 _ _ c.hG, ?_, _, _, acc ++ [.ref p2], rfl, ?_, ?_⟩
                  · rw [c.tp.length, List.length_map, List.length_take]
                    exact Nat.lt_of_le_of_lt (show _ ≤ 30000 by omega) (by decide)
                  · have hp := c.push s10 (grp_pair (H4 := H2) ht2 hp2 rfl)
                    rw [take_map_succ hus]
                    have eg : gD us = grpD (ns.tail, ns.headD 0) := by
                      unfold gD
                      rw [hgy]
                      rfl
                    rw [eg]
                    exact hp
                  · intro z hz
                    rw [List.take_succ, hus] at hz
                    rcases List.mem_append.mp hz with hz | hz
                    · exact hall z hz
                    · have e : z = us := by simpa using hz
                      rw [e, hgy]
                      rfl
        · rw [decide_eq_false (fun z => c1 ((of_at us).mp z))]
          exact iteT (iteT (no (group_no (.inr c1)) _ s4))
      · rintro σ H2 ⟨v4, v5, acc, rfl, c, hall⟩
        rw [List.length_map, hpl, List.take_length] at c hall
        refine ⟨_, rfl, G, _, rfl, .inl ⟨SqL.of c.hG, fun l hl => k _ _ (s1.trans (c.same.trans (same_new hl))) ?_⟩⟩
        rw [groups_yes hall]
        exact .tup upd_same (c.tp.same (same_new hl))
end
end K99

/-! K99P6 -/
set_option Elab.async false
set_option linter.all false
set_option maxRecDepth 100000
set_option maxHeartbeats 1000000
namespace K99
open PySem L2 TL
open PyProof.Rows (envOfC)
theorem groupsP_drop (ws : List Str) : groupsP (ws.drop (ws.idxOf ("cap" : Str))) = groupsD (groups (cut ("cap" : Str) ws).tail) := by
  obtain ⟨_, h2, h3⟩ := side_prog ws
  unfold groupsP
  rw [if_neg (fun z => z h2), h3]
theorem side_eq (ws : List Str) : side ws = both (nums (ws.take (ws.idxOf ("cap" : Str)))) (groups (cut ("cap" : Str) ws).tail) := by
  unfold side
  rw [(side_prog ws).1]
theorem isN_nums (o : Option (List Int)) : isN (numsD o) = o.isNone := by cases o <;> rfl
theorem isN_groups (o : Option (List (List Int × Int))) : isN (groupsD o) = o.isNone := by cases o <;> rfl
theorem Tp.noneD {H : Hp} {v : V} {d : PyData} (h : Tp H v d) (hn : K99.isN d = true) : d = .none := by
  cases d <;> first | rfl | cases hn
theorem catT {K : PySem.W.Frag} {H : Hp} {a b : Addr} {xs ys : List V} {Q : VK} (ha : H a = some (.tup xs)) (hb : H b = some (.tup ys)) (hx : xs ≠ []) (hl : xs.length + ys.length ≤ 30000)
    (k : ∀ (p : Addr) (H' : Hp), Same H H' → H' p = some (.tup (xs ++ ys)) → Q (.ref p) H') : rCatT K (.ref a) (.ref b) H Q :=
  ⟨a, b, xs, ys, rfl, rfl, SqT.of ha, SqT.of hb, hx, big hl, fun e => k a H (Same.refl _) (by rw [e, List.append_nil]; exact ha), fun _ p hp => k p _ (same_new hp) upd_same⟩
theorem in_strs' (ws : List Str) (m : Str) : (if (false : Bool) = true then !inV (.str m) (ws.map V.str) else inV (.str m) (ws.map V.str)) = decide (m ∈ ws) := by
  rw [if_neg Bool.false_ne_true]
  exact in_strs ws m

section
variable {P : Program} {w : World} {K : PySem.W.Frag} {mg : Str → Option Value} {base : Heap} {D : Addr}
abbrev sReadSide : Stmt := top 19
theorem scReadSide : FnScope ["words", "end", "row", "groups"] ["words"] (defScope sReadSide) := ⟨rfl, rfl, rfl, by decide +kernel, rfl, by decide +kernel, by decide +kernel⟩
theorem has_read_side (T : Txt K w mg D) : Has P w K mg base "read_side" ["words"] 4 (spW sideW) := by
  have h_read_groups : Has P w K mg base "read_groups" ["words"] 3 (spW groupsP) := has_read_groups T
  have h_read_numbers : Has P w K mg base "read_numbers" ["words"] 2 spNums := has_read_numbers T
  refine T.d_read_side.has scReadSide (fun vs H Q E h => ?_) (fun f cdv A outer s H vs Q E hr h => ?_)
  · obtain ⟨a, ws, rfl, _⟩ := h
    rfl
  · obtain ⟨a, ws, rfl, ha, ok, k⟩ := h
    refine ⟨_, (pss_cons (ps_set (i := 1) scReadSide.nd rfl (by first | exact Or.inl rfl | exact Or.inr rfl) (pe_ifExp (pt_cmpR op_in_seq pe_str (pv 0) (by rfl)) (pe_bm PySem.F.plainAttrs_list PySem.F.slot_list_index PySem.F.type_list_index mt_index (pv 0) (pa_cons pe_str pa_nil)) (pe_callB call_len_seq (by rfl) T.len PySem.boot_len (pa_cons (pv 0) pa_nil))))
      (pss_cons (ps_set (i := 2) scReadSide.nd rfl (by first | exact Or.inl rfl | exact Or.inr rfl) (pe_has h_read_numbers (hr.mono (by decide)) (pa_cons (pe_slice sl_list (pv 0) po_none (po_some (pv 1))) pa_nil)))
      (pss_cons (ps_set (i := 3) scReadSide.nd rfl (by first | exact Or.inl rfl | exact Or.inr rfl) (pe_has h_read_groups (hr.mono (by decide)) (pa_cons (pe_slice sl_list (pv 0) (po_some (pv 1)) po_none) pa_nil)))
      (pss_one (ps_ret (pe_ifExp (PW.pt (pw_or (pt_cmpR op_isN (pv 2) pe_non (nomark _)) (pw_or1 (pt_cmpR op_isN (pv 3) pe_non (nomark _))))) pe_non (pe_tup (pa_cons (pv 2) (pa_cons (pv 3) pa_nil))))))))), ?_⟩
    refine ⟨_, rfl, a, _, rfl, .inl (SqL.of ha), rfl, flat_strs ws, _, rfl, ?_⟩
    rw [in_strs']
    apply ite_imp
    · intro c g
      have hm := of_decide_eq_true c
      obtain ⟨i1, i2, i3⟩ := idx_at hm
      refine ⟨_, rfl, .inl ⟨rfl, _, SqL.of ha⟩, a, _, _, _, _, rfl, rfl, SqL.of ha, rfl, flat_strs ws, i1, i2, i3, ?_⟩
      exact g
    · intro c g
      have hm : ("cap" : Str) ∉ ws := fun z => c (decide_eq_true z)
      refine ⟨_, rfl, a, _, rfl, .inl (SqL.of ha), ?_⟩
      rw [List.length_map, ← List.idxOf_eq_length hm]
      exact g
    refine ⟨_, rfl, _, rfl, _, rfl, slW ha (cut_toE V.str ws (i := (ws.idxOf ("cap" : Str) : Int)) (n := ws.idxOf ("cap" : Str)) rfl) fun q1 H1 s1 hq1 => ⟨q1, _, rfl, hq1, ok.take _, fun v1 H2 s2 ht1 => ?_⟩⟩
    refine ⟨_, rfl, _, rfl, _, rfl, slWn (ha.same (s1.trans s2)) (cut_fromE V.str ws (i := (ws.idxOf ("cap" : Str) : Int)) (n := ws.idxOf ("cap" : Str)) rfl) fun q2 H3 s3 hq2 => ⟨q2, _, rfl, hq2, ok.drop _, fun v2 H4 s4 ht2 => ?_⟩⟩
    rw [groupsP_drop] at ht2
    have ht1 := ht1.same (s3.trans s4)
    have sA := s1.trans (s2.trans (s3.trans s4))
    have eS := side_eq ws
    have e1 := ht1.isN
    have e2 := ht2.isN
    rw [isN_nums] at e1
    rw [isN_groups] at e2
    refine ⟨_, rfl, rfl, _, rfl, ?_⟩
    rw [e1]
    cases h1 : nums (ws.take (ws.idxOf ("cap" : Str))) with
    | none =>
      rw [h1] at eS
      refine iteT (iteT (k _ _ sA ?_))
      unfold sideW
      rw [eS]
      exact .non
    | some ns =>
      refine iteF ⟨_, rfl, rfl, _, rfl, ?_⟩
      rw [e2]
      cases h2 : groups (cut ("cap" : Str) ws).tail with
      | none =>
        rw [h1, h2] at eS
        refine iteT (k _ _ sA ?_)
        unfold sideW
        rw [eS]
        exact .non
      | some gs =>
        rw [h1, h2] at eS
        rw [h1] at ht1
        rw [h2] at ht2
        refine iteF ⟨_, rfl, _, rfl, by show 2 ≤ sizeLine; decide, fun t ht => k _ _ (sA.trans (same_new ht)) ?_⟩
        unfold sideW
        rw [eS]
        have st := same_new (o := .tup [v1, v2]) ht
        exact .tup upd_same (.cons (ht1.same st) (.cons (ht2.same st) .nil))

abbrev sReadCaps : Stmt := top 20
theorem scReadCaps : FnScope ["words", "end", "buys", "sells"] ["words"] (defScope sReadCaps) := ⟨rfl, rfl, rfl, by decide +kernel, rfl, by decide +kernel, by decide +kernel⟩
theorem has_read_caps (T : Txt K w mg D) : Has P w K mg base "read_caps" ["words"] 5 (spW (wishD "caps")) := by
  have h_read_side : Has P w K mg base "read_side" ["words"] 4 (spW sideW) := has_read_side T
  refine T.d_read_caps.has scReadCaps (fun vs H Q E h => ?_) (fun f cdv A outer s H vs Q E hr h => ?_)
  · obtain ⟨a, ws, rfl, _⟩ := h
    rfl
  · obtain ⟨a, ws, rfl, ha, ok, k⟩ := h
    rw [caps_prog] at k
    refine ⟨_, (pss_cons (ps_if (PW.pt (pw_or (pt_cmpR (op_neD (hu64 hr)) (pe_slice sl_list (pv 0) po_none (po_some pe_int)) (pe_lst (pa_cons pe_str pa_nil)) (nomark _)) (pw_or1 (pt_cmpR op_ne (pe_bm PySem.F.plainAttrs_list PySem.F.slot_list_count PySem.F.type_list_count mt_countS (pv 0) (pa_cons pe_str pa_nil)) pe_int (nomark _))))) (pss_one (ps_ret pe_non))
      pss_nil)
      (pss_cons (ps_set (i := 1) scReadCaps.nd rfl (by first | exact Or.inl rfl | exact Or.inr rfl) (pe_bm PySem.F.plainAttrs_list PySem.F.slot_list_index PySem.F.type_list_index mt_index (pv 0) (pa_cons pe_str pa_nil)))
      (pss_cons (ps_set (i := 2) scReadCaps.nd rfl (by first | exact Or.inl rfl | exact Or.inr rfl) (pe_has h_read_side (hr.mono (by decide)) (pa_cons (pe_slice sl_list (pv 0) (po_some pe_int) (po_some (pv 1))) pa_nil)))
      (pss_cons (ps_set (i := 3) scReadCaps.nd rfl (by first | exact Or.inl rfl | exact Or.inr rfl) (pe_has h_read_side (hr.mono (by decide)) (pa_cons (pe_slice sl_list (pv 0) (po_some (pe_op op_add (pv 1) pe_int)) po_none) pa_nil)))
      (pss_one (ps_ret (pe_ifExp (PW.pt (pw_or (pt_cmpR op_isN (pv 2) pe_non (nomark _)) (pw_or1 (pt_cmpR op_isN (pv 3) pe_non (nomark _))))) pe_non (pe_op op_catT (pe_op op_catT (pe_tup (pa_cons pe_str pa_nil)) (pv 2)) (pv 3))))))))), ?_⟩
    refine ⟨_, rfl, 1, rfl, slW ha (cut_toE V.str ws (i := 1) (n := 1) rfl) fun q1 H1 s1 hq1 => ⟨by show 1 ≤ sizeLine; decide, fun q2 hq2 => ?_⟩⟩
    have s2 := s1.trans (same_new (o := .lst [V.str "buys"]) hq2)
    refine ⟨_, _, Wl.dp (hq1.same (same_new hq2)), Wl.dp (ws := ["buys"]) upd_same, shaped_ws (ok.take 1), by decide +kernel, _, rfl, ?_⟩
    rw [eqv_ws]
    by_cases c1 : ws.take 1 = [("buys" : Str)]
    · rw [decide_eq_true c1]
      have ha2 := ha.same s2
      refine iteF ⟨_, rfl, .inl ⟨rfl, _, SqL.of ha2⟩, a, _, _, rfl, rfl, SqL.of ha2, rfl, flat_strs ws, rfl, _, rfl, ?_⟩
      rw [count_strs]
      by_cases c2 : ws.count ("sells" : Str) = 1
      · rw [if_pos ⟨c1, c2⟩] at k
        rw [decide_eq_true (show V.int ((ws.count ("sells" : Str) : Nat) : Int) = V.int 1 by rw [c2]; rfl)]
        refine iteF ?_
        obtain ⟨i1, i2, i3⟩ := idx_at (mem_of_count c2)
        refine ⟨_, rfl, .inl ⟨rfl, _, SqL.of ha2⟩, a, _, _, _, _, rfl, rfl, SqL.of ha2, rfl, flat_strs ws, i1, i2, i3, ?_⟩
        refine ⟨_, rfl, 1, rfl, _, rfl, _, rfl, slW ha2 (cut_midE V.str ws (i := 1) (j := (ws.idxOf ("sells" : Str) : Int)) (n := 1) (m := ws.idxOf ("sells" : Str)) rfl rfl) fun q3 H3 s3 hq3 => ⟨q3, _, rfl, hq3, (ok.take _).drop _, fun v1 H4 s4 ht1 => ?_⟩⟩
        refine ⟨_, rfl, _, rfl, _, _, rfl, rfl, _, rfl, slWn (ha2.same (s3.trans s4)) (cut_fromE V.str ws (i := (ws.idxOf ("sells" : Str) : Int) + 1) (n := ws.idxOf ("sells" : Str) + 1) rfl) fun q4 H5 s5 hq4 => ⟨q4, _, rfl, hq4, ok.drop _, fun v2 H6 s6 ht2 => ?_⟩⟩
        have ht1 := ht1.same (s5.trans s6)
        unfold sideW at ht1 ht2
        have sA := s2.trans (s3.trans (s4.trans (s5.trans s6)))
        have e1 := ht1.isN
        have e2 := ht2.isN
        refine ⟨_, rfl, rfl, _, rfl, ?_⟩
        rw [e1]
        unfold capsM at k
        cases h1 : side ((ws.take (ws.idxOf ("sells" : Str))).drop 1) with
        | none =>
          rw [h1] at k
          exact iteT (iteT (k _ _ sA .non))
        | some x =>
          refine iteF ⟨_, rfl, rfl, _, rfl, ?_⟩
          rw [e2]
          cases h2 : side (ws.drop (ws.idxOf ("sells" : Str) + 1)) with
          | none =>
            rw [h1, h2] at k
            exact iteT (k _ _ sA .non)
          | some y =>
            rw [h1, h2] at k
            rw [h1] at ht1
            rw [h2] at ht2
            obtain ⟨x1, x2⟩ := x
            obtain ⟨y1, y2⟩ := y
            cases ht1 with
            | tup hA tA =>
              rename_i pa la
              cases ht2 with
              | tup hB tB =>
                rename_i pb lb
                cases tA with
                | cons tA1 tA' =>
                  cases tA' with
                  | cons tA2 tA'' =>
                    cases tA''
                    cases tB with
                    | cons tB1 tB' =>
                      cases tB' with
                      | cons tB2 tB'' =>
                        cases tB''
                        refine iteF ⟨by show 1 ≤ sizeLine; decide, fun t1 h1' => ?_⟩
                        have z1 := same_new (o := .tup [V.str "caps"]) h1'
                        refine ⟨_, rfl, catT upd_same (z1 _ _ hA) (by simp) (by simp) fun t2 H7 z2 ht2' => ⟨_, rfl, catT ht2' (z2 _ _ (z1 _ _ hB)) (by simp) (by simp) fun t3 H8 z3 ht3' => ?_⟩⟩
                        have zz := z1.trans (z2.trans z3)
                        exact k _ _ (sA.trans zz) (.tup ht3' (.cons (.str _) (.cons (tA1.same zz) (.cons (tA2.same zz) (.cons (tB1.same zz) (.cons (tB2.same zz) .nil))))))
      · rw [if_neg (fun z => c2 z.2)] at k
        rw [decide_eq_false (show ¬ V.int ((ws.count ("sells" : Str) : Nat) : Int) = V.int 1 from fun z => c2 (by injection z with z; omega))]
        exact iteT (k _ _ s2 .non)
    · rw [if_neg (fun z => c1 z.1)] at k
      rw [decide_eq_false c1]
      exact iteT (iteT (k _ _ s2 .non))
end
end K99

/-! K99P7 -/
set_option Elab.async false
set_option linter.all false
set_option maxRecDepth 100000
set_option maxHeartbeats 1000000
namespace K99
open PySem L2 TL
open PyProof.Rows (envOfC)
theorem parts3_yes {ws : List Str} (h1 : ws.count ("buys" : Str) = 1) (h2 : ws.count ("sells" : Str) = 1) (h3 : ¬ ws.idxOf ("sells" : Str) < ws.idxOf ("buys" : Str)) :
    parts3 ws = some (ws.take (ws.idxOf ("buys" : Str)), (ws.take (ws.idxOf ("sells" : Str))).drop (ws.idxOf ("buys" : Str) + 1), ws.drop (ws.idxOf ("sells" : Str) + 1)) := by
  have := idx_ne (mem_of_count h1) (mem_of_count h2)
  exact if_pos ⟨h1, h2, by omega⟩
theorem parts3_no {ws : List Str} (h : ¬ (ws.count ("buys" : Str) = 1 ∧ ws.count ("sells" : Str) = 1 ∧ ws.idxOf ("buys" : Str) < ws.idxOf ("sells" : Str))) : parts3 ws = none := if_neg h
theorem wish_none {kd : Str} {ws : List Str} (h : parts3 ws = none) : wishD kd ws = .none := by
  unfold wishD
  rw [h]
theorem wish_some {kd : Str} {ws a b c : List Str} (h : parts3 ws = some (a, b, c)) (hk : kd ≠ "caps") : wishD kd ws = plainD kd a b c := by
  unfold wishD
  rw [h]
  exact if_neg hk
theorem ints_len (ns : List Int) : (ns.map V.int).length = ns.length := List.length_map _
theorem slT1 {K : PySem.W.Frag} {H : Hp} {a : Addr} {ns ms : List Int} {lo hi : Option Int} {Q : VK} (ha : H a = some (.tup (ns.map V.int))) (e : cutV (ns.map V.int) lo hi = ms.map V.int) (hl : ms.length < ns.length)
    (k : ∀ (p : Addr) (H' : Hp), Same H H' → H' p = some (.tup (ms.map V.int)) → Q (.ref p) H') : rSlT K (.ref a) lo hi H Q := by
  refine ⟨a, _, rfl, SqT.of ha, fun z => ?_, fun p hp => k p _ (same_new hp) (by rw [e]; exact upd_same)⟩
  have e2 := congrArg List.length e
  unfold cutV at e2
  rw [z.1, z.2, List.length_take, List.length_drop, List.length_map, List.length_map] at e2
  omega
theorem slT1n {K : PySem.W.Frag} {H : Hp} {a : Addr} {ns ms : List Int} {lo : Option Int} {Q : VK} {σ : L2.St} (ha : H a = some (.tup (ns.map V.int))) (e : cutV (ns.map V.int) lo none = ms.map V.int) (hl : ms.length < ns.length)
    (k : ∀ (p : Addr) (H' : Hp), Same H H' → H' p = some (.tup (ms.map V.int)) → Q (.ref p) H') : tNoPart σ H (fun u H3 => rSlT K (.ref a) lo u H3 Q) := slT1 ha e hl k
theorem last_at {ns : List Int} (h : ns ≠ []) : atI (ns.map V.int) (-1) = some (.int (ns.getLastD 0)) := by
  obtain ⟨l, x, e⟩ : ∃ l x, ns = l ++ [x] := ⟨ns.dropLast, ns.getLast h, (List.dropLast_concat_getLast h).symm⟩
  subst e
  rw [List.map_append, List.getLastD_concat]
  exact atI_last _ _
theorem head_at {ns : List Int} (h : ns ≠ []) : atI (ns.map V.int) 0 = some (.int (ns.headD 0)) := by
  cases ns with
  | nil => exact absurd rfl h
  | cons x r => exact atI_nat (j := 0) rfl

section
variable {P : Program} {w : World} {K : PySem.W.Frag} {mg : Str → Option Value} {base : Heap} {D : Addr}
abbrev sReadWishes : Stmt := top 17
theorem scReadWishes : FnScope ["kind", "words", "start", "end", "rooms", "buys", "sells"] ["kind", "words"] (defScope sReadWishes) := ⟨rfl, rfl, rfl, by decide +kernel, rfl, by decide +kernel, by decide +kernel⟩
def spWish : Sp := fun vs H Q _ => ∃ (kd : Str) (a : Addr) (ws : List Str), vs = [.str kd, .ref a] ∧ kd ≠ "caps" ∧ Wl H a ws ∧ WOk ws ∧ ∀ (v : V) (H' : Hp), Same H H' → Tp H' v (wishD kd ws) → Q v H'
theorem has_read_wishes (T : Txt K w mg D) : Has P w K mg base "read_wishes" ["kind", "words"] 3 spWish := by
  have h_read_numbers : Has P w K mg base "read_numbers" ["words"] 2 spNums := has_read_numbers T
  refine T.d_read_wishes.has scReadWishes (fun vs H Q E h => ?_) (fun f cdv A outer s H vs Q E hr h => ?_)
  · obtain ⟨kd, a, ws, rfl, _⟩ := h
    rfl
  · obtain ⟨kd, a, ws, rfl, hk, ha, ok, k⟩ := h
    refine ⟨_, (pss_cons (ps_if (PW.pt (pw_or (pt_cmpR op_ne (pe_bm PySem.F.plainAttrs_list PySem.F.slot_list_count PySem.F.type_list_count mt_countS (pv 1) (pa_cons pe_str pa_nil)) pe_int (nomark _)) (pw_or (pt_cmpR op_ne (pe_bm PySem.F.plainAttrs_list PySem.F.slot_list_count PySem.F.type_list_count mt_countS (pv 1) (pa_cons pe_str pa_nil)) pe_int (nomark _)) (pw_or1 (pt_cmpR op_lt (pe_bm PySem.F.plainAttrs_list PySem.F.slot_list_index PySem.F.type_list_index mt_index (pv 1) (pa_cons pe_str pa_nil)) (pe_bm PySem.F.plainAttrs_list PySem.F.slot_list_index PySem.F.type_list_index mt_index (pv 1) (pa_cons pe_str pa_nil)) (nomark _)))))) (pss_one (ps_ret pe_non))
      pss_nil)
      (pss_cons (ps_set (i := 2) scReadWishes.nd rfl (by first | exact Or.inl rfl | exact Or.inr rfl) (pe_bm PySem.F.plainAttrs_list PySem.F.slot_list_index PySem.F.type_list_index mt_index (pv 1) (pa_cons pe_str pa_nil)))
      (pss_cons (ps_set (i := 3) scReadWishes.nd rfl (by first | exact Or.inl rfl | exact Or.inr rfl) (pe_bm PySem.F.plainAttrs_list PySem.F.slot_list_index PySem.F.type_list_index mt_index (pv 1) (pa_cons pe_str pa_nil)))
      (pss_cons (ps_set (i := 4) scReadWishes.nd rfl (by first | exact Or.inl rfl | exact Or.inr rfl) (pe_has h_read_numbers (hr.mono (by decide)) (pa_cons (pe_slice sl_list (pv 1) po_none (po_some (pv 2))) pa_nil)))
      (pss_cons (ps_set (i := 5) scReadWishes.nd rfl (by first | exact Or.inl rfl | exact Or.inr rfl) (pe_has h_read_numbers (hr.mono (by decide)) (pa_cons (pe_slice sl_list (pv 1) (po_some (pe_op op_add (pv 2) pe_int)) (po_some (pv 3))) pa_nil)))
      (pss_cons (ps_set (i := 6) scReadWishes.nd rfl (by first | exact Or.inl rfl | exact Or.inr rfl) (pe_has h_read_numbers (hr.mono (by decide)) (pa_cons (pe_slice sl_list (pv 1) (po_some (pe_op op_add (pv 3) pe_int)) po_none) pa_nil)))
      (pss_cons (ps_if (PW.pt (pw_or (pt_cmpR op_isN (pv 4) pe_non (nomark _)) (pw_or (pt_cmpR op_isN (pv 5) pe_non (nomark _)) (pw_or (pt_cmpR op_isN (pv 6) pe_non (nomark _)) (pw_or1 (pt_cmpR op_ne (pe_callB call_len_seq (by rfl) T.len PySem.boot_len (pa_cons (pv 4) pa_nil)) (pe_op op_add pe_int (pe_callTy call_int1 (by rfl) T.int (by decide +kernel) (pa_cons (pe_cmpR op_eq (pv 0) pe_str (nomark _)) pa_nil))) (nomark _))))))) (pss_one (ps_ret pe_non))
      pss_nil)
      (pss_cons (ps_if (pt_cmpR op_ne (pv 0) pe_str (nomark _)) (pss_one (ps_ret (pe_op op_catT (pe_op op_catT (pe_tup (pa_cons (pv 0) pa_nil)) (pv 4)) (pe_tup (pa_cons (pv 5) (pa_cons (pv 6) pa_nil))))))
      pss_nil)
      (pss_one (ps_ret (pe_ifExp (pt_cmpR op_eq (pe_callB call_len_seq (by rfl) T.len PySem.boot_len (pa_cons (pv 5) pa_nil)) pe_int (nomark _)) pe_non (pe_tup (pa_cons (pv 0) (pa_cons (pe_ix ix_tup (pv 4) pe_int (fun _ _ => rfl)) (pa_cons (pe_slice sl_tup (pv 5) po_none (po_some (pe_un un_neg pe_int))) (pa_cons (pe_ix ix_tup (pv 5) (pe_un un_neg pe_int) (fun _ _ => rfl)) (pa_cons (pv 6) pa_nil))))))))))))))))), ?_⟩
    have fl := flat_strs ws
    have no : parts3 ws = none → Q .non H := fun e => k _ _ (Same.refl _) (by rw [wish_none e]; exact .non)
    refine ⟨_, rfl, .inl ⟨rfl, _, SqL.of ha⟩, a, _, _, rfl, rfl, SqL.of ha, rfl, fl, rfl, _, rfl, ?_⟩
    rw [count_strs]
    by_cases c1 : ws.count ("buys" : Str) = 1
    · rw [decide_eq_true (show V.int ((ws.count ("buys" : Str) : Nat) : Int) = V.int 1 by rw [c1]; rfl)]
      refine iteF ⟨_, rfl, .inl ⟨rfl, _, SqL.of ha⟩, a, _, _, rfl, rfl, SqL.of ha, rfl, fl, rfl, _, rfl, ?_⟩
      rw [count_strs]
      by_cases c2 : ws.count ("sells" : Str) = 1
      · rw [decide_eq_true (show V.int ((ws.count ("sells" : Str) : Nat) : Int) = V.int 1 by rw [c2]; rfl)]
        obtain ⟨b1, b2, b3⟩ := idx_at (mem_of_count c1)
        obtain ⟨i1, i2, i3⟩ := idx_at (mem_of_count c2)
        refine iteF ⟨_, rfl, .inl ⟨rfl, _, SqL.of ha⟩, a, _, _, _, _, rfl, rfl, SqL.of ha, rfl, fl, i1, i2, i3, _, rfl, .inl ⟨rfl, _, SqL.of ha⟩, a, _, _, _, _, rfl, rfl, SqL.of ha, rfl, fl, b1, b2, b3, _, _, rfl, rfl, _, rfl, ?_⟩
        by_cases c3 : ws.idxOf ("sells" : Str) < ws.idxOf ("buys" : Str)
        · rw [decide_eq_true (show ((ws.idxOf ("sells" : Str) : Nat) : Int) < ((ws.idxOf ("buys" : Str) : Nat) : Int) by omega)]
          exact iteT (no (parts3_no fun z => by omega))
        · rw [decide_eq_false (show ¬ ((ws.idxOf ("sells" : Str) : Nat) : Int) < ((ws.idxOf ("buys" : Str) : Nat) : Int) by omega)]
          rw [wish_some (parts3_yes c1 c2 c3) hk] at k
          refine iteF ?_
          refine ⟨_, rfl, .inl ⟨rfl, _, SqL.of ha⟩, a, _, _, _, _, rfl, rfl, SqL.of ha, rfl, fl, b1, b2, b3, ?_⟩
          refine ⟨_, rfl, .inl ⟨rfl, _, SqL.of ha⟩, a, _, _, _, _, rfl, rfl, SqL.of ha, rfl, fl, i1, i2, i3, ?_⟩
          generalize hb : ws.idxOf ("buys" : Str) = b at k ⊢
          generalize hi : ws.idxOf ("sells" : Str) = i at k ⊢
          refine ⟨_, rfl, _, rfl, _, rfl, slW ha (cut_toE V.str ws (i := (b : Int)) (n := b) rfl) fun q1 H1 s1 hq1 => ⟨q1, _, rfl, hq1, ok.take _, fun v1 H2 s2 ht1 => ?_⟩⟩
          have ha2 := ha.same (s1.trans s2)
          refine ⟨_, rfl, _, rfl, _, _, rfl, rfl, _, rfl, _, rfl, _, rfl, slW ha2 (cut_midE V.str ws (i := (b : Int) + 1) (j := (i : Int)) (n := b + 1) (m := i) rfl rfl) fun q2 H3 s3 hq2 => ⟨q2, _, rfl, hq2, (ok.take _).drop _, fun v2 H4 s4 ht2 => ?_⟩⟩
          refine ⟨_, rfl, _, rfl, _, _, rfl, rfl, _, rfl, slWn (ha2.same (s3.trans s4)) (cut_fromE V.str ws (i := (i : Int) + 1) (n := i + 1) rfl) fun q3 H5 s5 hq3 => ⟨q3, _, rfl, hq3, ok.drop _, fun v3 H6 s6 ht3 => ?_⟩⟩
          have ht1 := ht1.same (s3.trans (s4.trans (s5.trans s6)))
          have ht2 := ht2.same (s5.trans s6)
          have sA := s1.trans (s2.trans (s3.trans (s4.trans (s5.trans s6))))
          have e1 := ht1.isN
          have e2 := ht2.isN
          have e3 := ht3.isN
          rw [isN_nums] at e1 e2 e3
          unfold plainD at k
          have len1 : ∀ ns, nums (ws.take b) = some ns → ns.length ≤ 30000 := fun ns h => by
            have := (nums_some h).2.2
            rw [List.length_take] at this
            have := ok.few
            omega
          generalize hn1 : nums (ws.take b) = o1 at k ht1 e1 len1
          generalize hn2 : nums ((ws.take i).drop (b + 1)) = o2 at k ht2 e2
          generalize hn3 : nums (ws.drop (i + 1)) = o3 at k ht3 e3
          refine ⟨_, rfl, rfl, _, rfl, ?_⟩
          rw [e1]
          cases o1 with
          | none => exact iteT (iteT (k _ _ sA .non))
          | some r =>
            refine iteF ⟨_, rfl, rfl, _, rfl, ?_⟩
            rw [e2]
            cases o2 with
            | none => exact iteT (iteT (k _ _ sA .non))
            | some p =>
              refine iteF ⟨_, rfl, rfl, _, rfl, ?_⟩
              rw [e3]
              cases o3 with
              | none => exact iteT (iteT (k _ _ sA .non))
              | some q =>
                have k : ∀ (v : V) (H' : Hp), Same H H' → Tp H' v (rowsD kd r p q) → Q v H' := k
                have len1 := len1 r rfl
                obtain ⟨a1, rfl, h1⟩ := ht1.tupI
                obtain ⟨a2, rfl, h2⟩ := ht2.tupI
                obtain ⟨a3, rfl, h3⟩ := ht3.tupI
                refine iteF ⟨_, rfl, a1, _, rfl, .inr (SqT.of h1), _, rfl, rfl, .inr ⟨_, rfl, _, _, rfl, rfl, rfl, _, rfl, ?_⟩⟩
                rw [ints_len]
                have et : decide (V.str kd = V.str "trader") = decide (kd = "trader") := decide_eq_decide.mpr ⟨fun z => (by injection z), fun z => by rw [z]⟩
                have es : decide (V.str kd = V.str "sides") = decide (kd = "sides") := decide_eq_decide.mpr ⟨fun z => (by injection z), fun z => by rw [z]⟩
                rw [et]
                unfold rowsD at k
                have en : decide (V.int ((r.length : Nat) : Int) = V.int (1 + if decide (kd = "trader") = true then 1 else 0)) = decide (r.length = if kd = ("trader" : Str) then 2 else 1) := by
                  refine decide_eq_decide.mpr ?_
                  by_cases ct : kd = "trader"
                  · rw [if_pos ct, if_pos (decide_eq_true ct)]
                    exact ⟨fun z => by injection z with z; omega, fun z => by rw [z]; rfl⟩
                  · rw [if_neg ct, if_neg (fun z => ct (of_decide_eq_true z))]
                    exact ⟨fun z => by injection z with z; omega, fun z => by rw [z]; rfl⟩
                rw [en]
                by_cases cl : r.length = if kd = ("trader" : Str) then 2 else 1
                · rw [if_neg (fun z => z cl)] at k
                  rw [decide_eq_true cl]
                  have hr0 : r ≠ [] := fun z => by
                    rw [z] at cl
                    split at cl <;> cases cl
                  refine iteF ⟨_, rfl, rfl, _, rfl, ?_⟩
                  rw [es]
                  by_cases cs : kd = "sides"
                  · rw [if_pos cs] at k
                    rw [decide_eq_true cs]
                    refine iteF ⟨_, rfl, a2, _, rfl, .inr (SqT.of h2), rfl, _, rfl, ?_⟩
                    rw [ints_len]
                    by_cases cp : p = []
                    · rw [if_pos cp] at k
                      rw [decide_eq_true (show V.int ((p.length : Nat) : Int) = V.int 0 by rw [cp]; rfl)]
                      exact iteT (k _ _ sA .non)
                    · rw [if_neg cp] at k
                      rw [decide_eq_false (show ¬ V.int ((p.length : Nat) : Int) = V.int 0 from fun z => cp (by injection z with z; exact List.length_eq_zero_iff.mp (by omega)))]
                      have hpl : 0 < p.length := List.length_pos_iff.mpr cp
                      refine iteF ⟨_, rfl, _, rfl, a1, _, 0, _, rfl, rfl, SqT.of h1, head_at hr0, _, rfl, 1, rfl, -1, rfl, slT1 h2 (cut_but1 V.int p) (by rw [List.length_dropLast]; omega) fun t1 H7 s7 ht7 => ?_⟩
                      refine ⟨_, rfl, 1, rfl, a2, _, -1, _, rfl, rfl, SqT.of (s7 _ _ h2), last_at cp, _, rfl, by show 5 ≤ sizeLine; decide, fun t2 ht2' => k _ _ (sA.trans (s7.trans (same_new ht2'))) ?_⟩
                      have s8 := same_new (o := .tup [V.str kd, V.int (r.headD 0), V.ref t1, V.int (p.getLastD 0), V.ref a3]) ht2'
                      exact .tup upd_same (.cons (.str _) (.cons (.int _) (.cons (Tp.ofI (s8 _ _ ht7)) (.cons (.int _) (.cons (Tp.ofI (s8 _ _ (s7 _ _ h3))) .nil)))))
                  · rw [if_neg cs] at k
                    rw [decide_eq_false cs]
                    refine iteT ⟨_, rfl, by show 1 ≤ sizeLine; decide, fun t1 ht1' => ?_⟩
                    have z1 := same_new (o := .tup [V.str kd]) ht1'
                    refine ⟨_, rfl, catT upd_same (z1 _ _ h1) (by simp) (by rw [ints_len]; simp; split at cl <;> omega) fun t2 H7 z2 ht2' => ?_⟩
                    refine ⟨_, rfl, _, rfl, by show 2 ≤ sizeLine; decide, fun t3 ht3' => ?_⟩
                    have z3 := same_new (o := .tup [V.ref a2, V.ref a3]) ht3'
                    refine catT (z3 _ _ ht2') upd_same (by simp) (by simp; split at cl <;> omega) fun t4 H8 z4 ht4 => ?_
                    have zz := z1.trans (z2.trans (z3.trans z4))
                    refine k _ _ (sA.trans zz) (.tup ht4 (.cons (.str _) ?_))
                    exact (TpA.ints r).append (.cons (Tp.ofI (zz _ _ h2)) (.cons (Tp.ofI (zz _ _ h3)) .nil))
                · rw [if_pos (fun z => cl z)] at k
                  rw [decide_eq_false cl]
                  exact iteT (k _ _ sA .non)
      · rw [decide_eq_false (show ¬ V.int ((ws.count ("sells" : Str) : Nat) : Int) = V.int 1 from fun z => c2 (by injection z with z; omega))]
        exact iteT (iteT (no (parts3_no fun z => c2 z.2.1)))
    · rw [decide_eq_false (show ¬ V.int ((ws.count ("buys" : Str) : Nat) : Int) = V.int 1 from fun z => c1 (by injection z with z; omega))]
      exact iteT (iteT (no (parts3_no fun z => c1 z.1)))
end
end K99

/-! K99P8 -/
set_option Elab.async false
set_option linter.all false
set_option maxRecDepth 100000
set_option maxHeartbeats 1000000
namespace K99
open PySem L2 TL
open PyProof.Rows (envOfC)
theorem strD {a b : Str} : decide (V.str a = V.str b) = decide (a = b) := decide_eq_decide.mpr ⟨fun z => (by injection z), fun z => by rw [z]⟩
/-! ### data of a bounded depth -/
mutual
/-- nothing but None, ints, texts and tuples of these -/
def nb : PyData → Bool
  | .none => true
  | .int _ => true
  | .str _ => true
  | .tuple ds => nbA ds
  | .bool _ => false
  | .list _ => false
  | .dict _ => false
def nbA : List PyData → Bool
  | [] => true
  | d :: ds => nb d && nbA ds
end
theorem nbA_of : ∀ {ds : List PyData}, (∀ d ∈ ds, nb d = true) → nbA ds = true
  | [], _ => by simp [nbA]
  | d :: ds, h => by
    simp only [nbA, h d List.mem_cons_self, nbA_of fun e he => h e (List.mem_cons_of_mem _ he), Bool.and_self]
theorem nbA_get : ∀ {ds : List PyData} {i : Nat} {d : PyData}, nbA ds = true → ds[i]? = some d → nb d = true
  | [], i, d, _, e => by simp at e
  | x :: ds, 0, d, h, e => by
    have e := Option.some.inj e
    subst e
    simp only [nbA, Bool.and_eq_true] at h
    exact h.1
  | x :: ds, i + 1, d, h, e => by
    simp only [nbA, Bool.and_eq_true] at h
    exact nbA_get (i := i) h.2 (by simpa using e)
def Sh (k : Nat) (d : PyData) : Prop := d.canLay0 = true ∧ d.depth ≤ k ∧ nb d = true
theorem Sh.mono {j k : Nat} {d : PyData} (h : Sh j d) (hk : j ≤ k) : Sh k d := ⟨h.1, Nat.le_trans h.2.1 hk, h.2.2⟩
theorem Sh.str {x : Str} (h : (PyData.str x).canLay0 = true) (k : Nat) : Sh k (.str x) := ⟨h, by simp [PyData.depth], by simp [nb]⟩
theorem Sh.tuple {k : Nat} {ds : List PyData} (h : ∀ d ∈ ds, Sh k d) : Sh (k + 1) (.tuple ds) := by
  refine ⟨?_, ?_, ?_⟩
  · simp only [PyData.canLay0]
    exact lay_all fun d hd => (h d hd).1
  · have h := depth_all (k := k) fun d hd => (h d hd).2.1
    simp only [PyData.depth]
    omega
  · simp only [nb]
    exact nbA_of fun d hd => (h d hd).2.2
theorem Sh.none : Sh 0 .none := ⟨by simp [PyData.canLay0], by simp [PyData.depth], by simp [nb]⟩
theorem Sh.int (i : Int) : Sh 0 (.int i) := ⟨by simp [PyData.canLay0], by simp [PyData.depth], by simp [nb]⟩
theorem Sh.tupI (ns : List Int) : Sh 1 (K99.tupI ns) := Sh.tuple fun d hd => by
  obtain ⟨n, _, rfl⟩ := List.mem_map.mp hd
  exact Sh.int n
theorem Sh.gsD (gs : List (List Int × Int)) : Sh 3 (K99.gsD gs) := Sh.tuple fun d hd => by
  obtain ⟨g, _, rfl⟩ := List.mem_map.mp hd
  refine Sh.tuple fun d hd => ?_
  rcases List.mem_cons.mp hd with e | hd
  · subst e
    exact Sh.tupI _
  · rw [List.mem_singleton.mp hd]
    exact (Sh.int _).mono (by decide)
theorem Sh.table (ws : List Str) : Sh 4 (tableD ws) := by
  unfold tableD
  split
  · exact Sh.none.mono (by decide)
  · split
    · refine (Sh.tuple (k := 2) fun d hd => ?_).mono (by decide)
      rcases List.mem_cons.mp hd with e | hd
      · subst e
        exact Sh.str (by decide +kernel) _
      · rw [List.mem_singleton.mp hd]
        refine Sh.tuple fun d hd => ?_
        obtain ⟨p, _, rfl⟩ := List.mem_map.mp hd
        exact Sh.tupI _
    · exact Sh.none.mono (by decide)
theorem Sh.wish {kd : Str} (hk : (PyData.str kd).canLay0 = true) (ws : List Str) : Sh 4 (wishD kd ws) := by
  unfold wishD
  split
  · exact Sh.none.mono (by decide)
  · split
    · unfold capsD capsM
      split
      · exact Sh.none.mono (by decide)
      · split
        · refine Sh.tuple (k := 3) fun d hd => ?_
          simp only [List.mem_cons, List.not_mem_nil, or_false] at hd
          rcases hd with e | e | e | e | e <;> subst e
          · exact Sh.str (by decide +kernel) _
          · exact (Sh.tupI _).mono (by decide)
          · exact Sh.gsD _
          · exact (Sh.tupI _).mono (by decide)
          · exact Sh.gsD _
        · exact Sh.none.mono (by decide)
    · unfold plainD
      split
      · rename_i r p q _ _ _
        have hs : Sh 1 (.str kd) := Sh.str hk 1
        unfold rowsD
        by_cases hr : r.length ≠ (if kd = ("trader" : Str) then 2 else 1)
        · rw [if_pos hr]
          exact Sh.none.mono (by decide)
        · rw [if_neg hr]
          split
          · split
            · exact Sh.none.mono (by decide)
            · refine (Sh.tuple (k := 1) fun d hd => ?_).mono (by decide)
              simp only [List.mem_cons, List.not_mem_nil, or_false] at hd
              rcases hd with e | e | e | e | e <;> subst e
              · exact hs
              · exact (Sh.int _).mono (by decide)
              · exact Sh.tupI _
              · exact (Sh.int _).mono (by decide)
              · exact Sh.tupI _
          · refine (Sh.tuple (k := 1) fun d hd => ?_).mono (by decide)
            rcases List.mem_cons.mp hd with e | hd
            · subst e
              exact hs
            · rcases List.mem_append.mp hd with hd | hd
              · obtain ⟨n, _, rfl⟩ := List.mem_map.mp hd
                exact (Sh.int n).mono (by decide)
              · simp only [List.mem_cons, List.not_mem_nil, or_false] at hd
                rcases hd with e | e <;> subst e <;> exact Sh.tupI _
      · exact Sh.none.mono (by decide)
theorem Sh.part (ws : List Str) : Sh 4 (partD ws) := by
  unfold partD
  split
  · exact Sh.none.mono (by decide)
  · rename_i k r
    split
    · exact Sh.table r
    · split
      · rename_i h
        refine Sh.wish ?_ r
        rcases h with e | e | e | e <;> rw [e] <;> decide +kernel
      · exact Sh.none.mono (by decide)
theorem Sh.shp {d : PyData} {k : Nat} (h : Sh k d) (hk : k ≤ 60) : Shp d := ⟨h.1, Nat.le_trans h.2.1 hk⟩
theorem Sh.choice (ws : List Str) : Sh 6 (choiceD ws) := by
  unfold choiceD
  split
  · unfold splitD
    split
    · exact Sh.none.mono (by decide)
    · split
      · refine Sh.tuple (k := 5) fun d hd => ?_
        rcases List.mem_cons.mp hd with e | hd
        · subst e
          exact Sh.str (by decide +kernel) _
        · rw [List.mem_singleton.mp hd]
          refine Sh.tuple (k := 4) fun d hd => ?_
          obtain ⟨p, _, rfl⟩ := List.mem_map.mp hd
          exact Sh.part p
      · exact Sh.none.mono (by decide)
  · exact (Sh.part ws).mono (by decide)
theorem needs_key {x : Str} {m : Nat} (h : needs x = some m) : x = "offer" ∨ x = "cancel" ∨ x = "undo" ∨ x = "redo" := by
  unfold needs at h
  split at h
  · rename_i e
    exact .inl e
  · split at h
    · rename_i e
      exact .inr (.inl e)
    · split at h
      · rename_i e
        rcases e with e | e
        · exact .inr (.inr (.inl e))
        · exact .inr (.inr (.inr e))
      · cases h
theorem Sh.deed (ws : List Str) : Sh 7 (wordsD ws) := by
  unfold wordsD
  split
  · split
    · split
      · exact Sh.none.mono (by decide)
      · refine Sh.tuple (k := 6) fun d hd => ?_
        simp only [List.mem_cons, List.not_mem_nil, or_false] at hd
        rcases hd with e | e | e <;> subst e
        · exact Sh.str (by decide +kernel) _
        · exact (Sh.int _).mono (by decide)
        · exact Sh.choice _
    · exact Sh.none.mono (by decide)
  · split
    · split
      · rename_i h
        refine (Sh.tuple (k := 1) fun d hd => ?_).mono (by decide)
        rcases List.mem_cons.mp hd with e | hd
        · subst e
          refine Sh.str ?_ _
          rcases needs_key h with e | e | e | e <;> rw [e] <;> decide +kernel
        · obtain ⟨n, _, rfl⟩ := List.mem_map.mp hd
          exact (Sh.int n).mono (by decide)
      · exact Sh.none.mono (by decide)
    · exact Sh.none.mono (by decide)
theorem Sh.due (ls : List Str) : Sh 9 (dueD ls) := by
  have hb : ∀ n, Sh 9 (badD n) := fun n => (Sh.tuple (k := 0) fun d hd => by
    simp only [List.mem_cons, List.not_mem_nil, or_false] at hd
    rcases hd with e | e <;> subst e
    · exact Sh.str (by decide +kernel) _
    · exact Sh.int _).mono (by decide)
  unfold dueD
  split
  · split
    · refine Sh.tuple (k := 8) fun d hd => ?_
      simp only [List.mem_cons, List.not_mem_nil, or_false] at hd
      rcases hd with e | e <;> subst e
      · exact Sh.str (by decide +kernel) _
      · refine Sh.tuple (k := 7) fun d hd => ?_
        obtain ⟨l, _, rfl⟩ := List.mem_map.mp hd
        exact Sh.deed _
    · exact hb _
  · exact hb _
/-! ### a line's words -/
structure LOk (x : Str) : Prop where
  short : x.length ≤ 20001
  ok : ∀ c ∈ tl x, c < 1114112
theorem strOk_of {x : Str} (h : ∀ c ∈ tl x, c < 1114112) : (PyData.str x).canLay0 = true := by
  simp only [PyData.canLay0]
  show x.cps.all (· < 0x110000) = true
  rw [← Array.all_toList]
  exact List.all_eq_true.mpr fun c hc => decide_eq_true (h c hc)
theorem LOk.words {x y : Str} {s : Nat} (h : LOk x) (hy : tl y = [s]) (hs : s < 256) : WOk (Txt.split x y) := by
  constructor
  · have := split_few (x := x) hy hs
    have := h.short
    omega
  · intro p hp
    obtain ⟨h1, h2, _⟩ := split_mem hy hs hp
    have := h.short
    exact ⟨by omega, strOk_of fun c hc => h.ok c (h2 c hc)⟩
theorem split0 {x y : Str} (hy : (y.length == 0) = false) : (y.length == 0) = false := hy

section
variable {P : Program} {w : World} {K : PySem.W.Frag} {mg : Str → Option Value} {base : Heap} {D : Addr}
abbrev sReadPart : Stmt := top 21
theorem scReadPart : FnScope ["words", "kind"] ["words"] (defScope sReadPart) := ⟨rfl, rfl, rfl, by decide +kernel, rfl, by decide +kernel, by decide +kernel⟩
theorem has_read_part (T : Txt K w mg D) : Has P w K mg base "read_part" ["words"] 6 (spW partD) := by
  have h_read_table : Has P w K mg base "read_table" ["words"] 3 (spW tableD) := has_read_table T
  have h_read_caps : Has P w K mg base "read_caps" ["words"] 5 (spW (wishD "caps")) := has_read_caps T
  have h_read_wishes : Has P w K mg base "read_wishes" ["kind", "words"] 3 spWish := has_read_wishes T
  refine T.d_read_part.has scReadPart (fun vs H Q E h => ?_) (fun f cdv A outer s H vs Q E hr h => ?_)
  · obtain ⟨a, ws, rfl, _⟩ := h
    rfl
  · obtain ⟨a, ws, rfl, ha, ok, k⟩ := h
    refine ⟨_, (pss_cons (ps_set (i := 1) scReadPart.nd rfl (by first | exact Or.inl rfl | exact Or.inr rfl) (pe_ifExp (pt_cmpR op_gt (pe_callB call_len_seq (by rfl) T.len PySem.boot_len (pa_cons (pv 0) pa_nil)) pe_int (nomark _)) (pe_ix ix_list (pv 0) pe_int (fun _ _ => rfl)) pe_str))
      (pss_cons (ps_if (pt_cmpR op_eq (pv 1) pe_str (nomark _)) (pss_one (ps_ret (pe_has h_read_table (hr.mono (by decide)) (pa_cons (pe_slice sl_list (pv 0) (po_some pe_int) po_none) pa_nil))))
      pss_nil)
      (pss_cons (ps_if (pt_cmpR op_eq (pv 1) pe_str (nomark _)) (pss_one (ps_ret (pe_has h_read_caps (hr.mono (by decide)) (pa_cons (pe_slice sl_list (pv 0) (po_some pe_int) po_none) pa_nil))))
      pss_nil)
      (pss_cons (ps_if (pt_cmpR op_in_seq (pv 1) (pe_tup (pa_cons pe_str (pa_cons pe_str (pa_cons pe_str pa_nil)))) (by rfl)) (pss_one (ps_ret (pe_has h_read_wishes (hr.mono (by decide)) (pa_cons (pv 1) (pa_cons (pe_slice sl_list (pv 0) (po_some pe_int) po_none) pa_nil)))))
      pss_nil)
      (pss_one (ps_ret pe_non)))))), ?_⟩
    refine ⟨_, rfl, a, _, rfl, .inl (SqL.of ha), _, _, rfl, rfl, _, rfl, ?_⟩
    have hpart : partD ws = if ws.headD "" = ("table" : Str) then tableD (ws.drop 1) else if ws.headD "" = ("maker" : Str) ∨ ws.headD "" = ("sides" : Str) ∨ ws.headD "" = ("trader" : Str) ∨ ws.headD "" = ("caps" : Str) then wishD (ws.headD "") (ws.drop 1) else .none := by
      cases ws with
      | nil =>
        show PyData.none = _
        rw [if_neg (by decide +kernel), if_neg (by decide +kernel)]
      | cons x r => rfl
    rw [hpart] at k
    apply ite_imp
    · intro c g
      obtain ⟨x, r, e⟩ : ∃ x r, ws = x :: r := by
        cases ws with
        | nil => exact absurd c (by decide)
        | cons x r => exact ⟨x, r, rfl⟩
      have hx : atI (ws.map V.str) 0 = some (.str (ws.headD "")) := by
        rw [e]
        exact atI_nat (j := 0) rfl
      refine ⟨_, rfl, a, _, 0, _, rfl, rfl, SqL.of ha, hx, ?_⟩
      exact g
    · intro c g
      have e : ws = [] := by
        cases ws with
        | nil => rfl
        | cons x r => exact absurd (by simp) c
      have g' := g
      rw [show ws.headD "" = "" by rw [e]; rfl] at g'
      exact g'
    have sl : cutV (ws.map V.str) (some 1) none = (ws.drop 1).map V.str := cut_fromE V.str ws (i := 1) (n := 1) rfl
    refine ⟨_, rfl, rfl, _, rfl, ?_⟩
    rw [strD]
    by_cases c1 : ws.headD "" = ("table" : Str)
    · rw [if_pos c1] at k
      rw [decide_eq_true c1]
      exact iteT ⟨_, rfl, 1, rfl, slWn ha sl fun q1 H1 s1 hq1 => ⟨q1, _, rfl, hq1, ok.drop 1, fun v H2 s2 ht => k v H2 (s1.trans s2) ht⟩⟩
    · rw [if_neg c1] at k
      rw [decide_eq_false c1]
      refine iteF ⟨_, rfl, rfl, _, rfl, ?_⟩
      rw [strD]
      by_cases c2 : ws.headD "" = ("caps" : Str)
      · rw [if_pos (.inr (.inr (.inr c2))), c2] at k
        rw [decide_eq_true c2]
        exact iteT ⟨_, rfl, 1, rfl, slWn ha sl fun q1 H1 s1 hq1 => ⟨q1, _, rfl, hq1, ok.drop 1, fun v H2 s2 ht => k v H2 (s1.trans s2) ht⟩⟩
      · rw [decide_eq_false c2]
        refine iteF ⟨_, rfl, by show 3 ≤ sizeLine; decide, fun t ht => ⟨t, _, rfl, .inr (SqT.of upd_same), rfl, by rfl, _, rfl, ?_⟩⟩
        have z1 := same_new (o := .tup [V.str "maker", V.str "sides", V.str "trader"]) ht
        have e3 := in_strs' ["maker", "sides", "trader"] (ws.headD "")
        rw [show ([V.str "maker", V.str "sides", V.str "trader"] : List V) = (["maker", "sides", "trader"] : List Str).map V.str from rfl, e3]
        by_cases c3 : ws.headD "" ∈ (["maker", "sides", "trader"] : List Str)
        · have c4 : ws.headD "" = ("maker" : Str) ∨ ws.headD "" = ("sides" : Str) ∨ ws.headD "" = ("trader" : Str) ∨ ws.headD "" = ("caps" : Str) := by
            simp only [List.mem_cons, List.not_mem_nil, or_false] at c3
            rcases c3 with e | e | e
            · exact .inl e
            · exact .inr (.inl e)
            · exact .inr (.inr (.inl e))
          rw [if_pos c4] at k
          rw [decide_eq_true c3]
          exact iteT ⟨_, rfl, _, rfl, 1, rfl, slWn (ha.same z1) sl fun q1 H1 s1 hq1 => ⟨ws.headD "", q1, _, rfl, c2, hq1, ok.drop 1, fun v H2 s2 ht => k v H2 (z1.trans (s1.trans s2)) ht⟩⟩
        · rw [if_neg] at k
          · rw [decide_eq_false c3]
            exact iteF (k _ _ z1 .non)
          · intro c4
            apply c3
            simp only [List.mem_cons, List.not_mem_nil, or_false]
            rcases c4 with e | e | e | e
            · exact .inl e
            · exact .inr (.inl e)
            · exact .inr (.inr e)
            · exact absurd e c2

abbrev sReadChoice : Stmt := top 22
theorem scReadChoice : FnScope ["words", "parts", "choices", "part"] ["words"] (defScope sReadChoice) := ⟨rfl, rfl, rfl, by decide +kernel, rfl, by decide +kernel, by decide +kernel⟩
theorem has_read_choice (T : Txt K w mg D) : Has P w K mg base "read_choice" ["words"] 7 (spW choiceD) := by
  have h_parts_behind : Has P w K mg base "parts_behind" ["words", "mark"] 1 spBehind := has_parts_behind T
  have h_read_part : Has P w K mg base "read_part" ["words"] 6 (spW partD) := has_read_part T
  refine T.d_read_choice.has scReadChoice (fun vs H Q E h => ?_) (fun f cdv A outer s H vs Q E hr h => ?_)
  · obtain ⟨a, ws, rfl, _⟩ := h
    rfl
  · obtain ⟨a, ws, rfl, ha, ok, k⟩ := h
    refine ⟨_, (pss_cons (ps_if (pt_cmpR (op_neD (hu64 hr)) (pe_slice sl_list (pv 0) po_none (po_some pe_int)) (pe_lst (pa_cons pe_str pa_nil)) (nomark _)) (pss_one (ps_ret (pe_has h_read_part (hr.mono (by decide)) (pa_cons (pv 0) pa_nil))))
      pss_nil)
      (pss_cons (ps_set (i := 1) scReadChoice.nd rfl (by first | exact Or.inl rfl | exact Or.inr rfl) (pe_has h_parts_behind (hr.mono (by decide)) (pa_cons (pe_slice sl_list (pv 0) (po_some pe_int) po_none) (pa_cons pe_str pa_nil))))
      (pss_cons (ps_if (pt_cmpR op_isN (pv 1) pe_non (nomark _)) (pss_one (ps_ret pe_non))
      pss_nil)
      (pss_cons (ps_setLc (i := 2) (own := [("part", 3)]) rfl scReadChoice.nd rfl rfl (sw_true rfl rfl rfl (by decide +kernel)) (pi_list (pv 1)) (blkOk_by (own := [("part", 3)]) (N := ["words", "parts", "choices", "part"]) (sc := defScope sReadChoice) (by decide +kernel)) (fun _ _ _ _ _ => pg_name (i := 3) scReadChoice.nd rfl (Or.inl rfl)) (fun _ _ _ _ _ => pts_nil) (fun _ _ _ _ _ => (pe_has h_read_part (hr.mono (by decide)) (pa_cons (pv 3) pa_nil))))
      (pss_one (ps_ret (pe_ifExp (pt_cmpR (op_inD (hu65 hr)) pe_non (pv 2) (by rfl)) pe_non (pe_tup (pa_cons pe_str (pa_cons (pe_callTy call_tuple_of (by rfl) T.tuple (by decide +kernel) (pa_cons (pv 2) pa_nil)) pa_nil)))))))))), ?_⟩
    refine ⟨_, rfl, 1, rfl, slW ha (cut_toE V.str ws (i := 1) (n := 1) rfl) fun q1 H1 s1 hq1 => ⟨by show 1 ≤ sizeLine; decide, fun q2 hq2 => ?_⟩⟩
    have s2 := s1.trans (same_new (o := .lst [V.str "split"]) hq2)
    refine ⟨_, _, Wl.dp (hq1.same (same_new hq2)), Wl.dp (ws := ["split"]) upd_same, shaped_ws (ok.take 1), by decide +kernel, _, rfl, ?_⟩
    rw [eqv_ws]
    unfold choiceD at k
    by_cases c1 : ws.take 1 = [("split" : Str)]
    · rw [if_pos c1] at k
      rw [decide_eq_true c1]
      refine iteF ?_
      refine ⟨_, rfl, 1, rfl, slWn (ha.same s2) (cut_fromE V.str ws (i := 1) (n := 1) rfl) fun q3 H3 s3 hq3 => ?_⟩
      refine ⟨q3, _, _, rfl, hq3, ok.drop 1, fun hne H4 s4 => ?_, fun he F H4 s4 hL => ?_⟩
      · refine ⟨_, rfl, rfl, _, rfl, iteT (k _ _ (s2.trans (s3.trans s4)) ?_)⟩
        unfold splitD
        rw [if_pos hne]
        exact .non
      · have ok1 := ok.drop 1
        have okp : ∀ p ∈ (cut ("part" : Str) (ws.drop 1)).tail, WOk p := fun p hp => ok1.part (List.mem_of_mem_tail hp)
        have few : (cut ("part" : Str) (ws.drop 1)).tail.length ≤ 30000 := by
          rw [List.length_tail, cut_length]
          have := List.count_le_length (a := ("part" : Str)) (l := ws.drop 1)
          have := ok1.few
          omega
        have hT : splitD (ws.drop 1) = if (cut ("part" : Str) (ws.drop 1)).tail.all (fun p => !isN (partD p)) = true then .tuple [.str "split", .tuple ((cut ("part" : Str) (ws.drop 1)).tail.map partD)] else .none := by
          unfold splitD
          rw [if_neg (fun z => z he)]
        rw [hT] at k
        generalize hps : (cut ("part" : Str) (ws.drop 1)).tail = parts at k hL okp few
        have sB := s2.trans (s3.trans s4)
        obtain ⟨ps, hF, hP⟩ := hL
        have hpl := pair_len hP
        refine ⟨_, rfl, rfl, _, rfl, iteF ?_⟩
        refine ⟨_, rfl, F, rfl, ⟨_, SqL.of hF⟩, fun D1 hD1 => lc_mapI (K := K) (parts.map partD) (SqL.of hF) hD1 ?_ ?_ ?_ ?_⟩
        · rw [List.length_map]
          exact big (by omega)
        · rw [List.length_map, List.length_map]
          exact hpl.symm
        · intro i x d H5 Q5 hi hdi s5 k5
          obtain ⟨p, rfl, e1⟩ := ref_at hi
          obtain ⟨us, e2, hu⟩ := pair_get hP e1
          rw [List.getElem?_map, e2] at hdi
          cases hdi
          exact ⟨_, rfl, p, us, rfl, hu.same s5, okp us (List.mem_of_getElem? e2), fun v H6 s6 ht => k5 v H6 s6 ht⟩
        · intro H5 acc s5 hacc ht
          have sC := sB.trans s5
          refine ⟨_, rfl, .none, _, .non, .lst (SqL.of hacc) (TpA.dp _ _ ht), by decide +kernel, Shp.list fun d hd => ?_, _, rfl, ?_⟩
          · obtain ⟨p, hp, rfl⟩ := List.mem_map.mp hd
            exact (Sh.part p).shp (by decide)
          · have ea : ((parts.map partD).any fun z => PyData.eqv z .none) = !parts.all (fun p => !isN (partD p)) := by
              rw [List.any_map, List.not_all_eq_any_not]
              congr 1
              funext p
              show PyData.eqv (partD p) .none = !!isN (partD p)
              rw [eqv_none, Bool.not_not]
            rw [ea]
            by_cases c2 : parts.all (fun p => !isN (partD p)) = true
            · rw [c2]
              rw [if_pos c2] at k
              refine iteF ⟨_, rfl, D1, _, rfl, .inl ⟨SqL.of hacc, fun l hl => ⟨by show 2 ≤ sizeLine; decide, fun t ht' => k _ _ (sC.trans ((same_new hl).trans (same_new ht'))) ?_⟩⟩⟩
              have sN := (same_new (o := .tup acc) hl).trans (same_new (o := .tup [V.str "split", V.ref l]) ht')
              exact .tup upd_same (.cons (.str _) (.cons (.tup (by rw [upd_ne (ptr_ne ht')]; exact upd_same) (ht.same sN)) .nil))
            · rw [Bool.eq_false_iff.mpr c2]
              rw [if_neg c2] at k
              exact iteT (k _ _ sC .non)
    · rw [if_neg c1] at k
      rw [decide_eq_false c1]
      exact iteT ⟨_, rfl, a, ws, rfl, ha.same s2, ok, fun v H2 s3 ht => k v H2 (s2.trans s3) ht⟩

abbrev sReadDeed : Stmt := top 25
theorem scReadDeed : FnScope ["line", "words", "numbers", "house", "choice"] ["line"] (defScope sReadDeed) := ⟨rfl, rfl, rfl, by decide +kernel, rfl, by decide +kernel, by decide +kernel⟩
def spDeed : Sp := fun vs H Q _ => ∃ x : Str, vs = [.str x] ∧ LOk x ∧ ∀ (v : V) (H' : Hp), Same H H' → Tp H' v (deedD x) → Q v H'
theorem has_read_deed (T : Txt K w mg D) : Has P w K mg base "read_deed" ["line"] 8 spDeed := by
  have h_read_numbers : Has P w K mg base "read_numbers" ["words"] 2 spNums := has_read_numbers T
  have h_read_choice : Has P w K mg base "read_choice" ["words"] 7 (spW choiceD) := has_read_choice T
  refine T.d_read_deed.has scReadDeed (fun vs H Q E h => ?_) (fun f cdv A outer s H vs Q E hr h => ?_)
  · obtain ⟨x, rfl, _⟩ := h
    rfl
  · obtain ⟨x, rfl, hx, k⟩ := h
    refine ⟨_, (pss_cons (ps_set (i := 1) scReadDeed.nd rfl (by first | exact Or.inl rfl | exact Or.inr rfl) (pe_split (pv 0) pe_str))
      (pss_cons (ps_if (pt_cmpR op_eq (pe_ix ix_list (pv 1) pe_int (fun _ _ => rfl)) pe_str (nomark _)) (pss_cons (ps_set (i := 3) scReadDeed.nd rfl (by first | exact Or.inl rfl | exact Or.inr rfl) (pe_has h_read_numbers (hr.mono (by decide)) (pa_cons (pe_slice sl_list (pv 1) (po_some pe_int) (po_some pe_int)) pa_nil)))
      (pss_cons (ps_set (i := 4) scReadDeed.nd rfl (by first | exact Or.inl rfl | exact Or.inr rfl) (pe_has h_read_choice (hr.mono (by decide)) (pa_cons (pe_slice sl_list (pv 1) (po_some pe_int) po_none) pa_nil)))
      (pss_cons (ps_if (PW.pt (pw_or (pt_cmpR op_isN (pv 3) pe_non (nomark _)) (pw_or (pt_cmpR op_eq (pe_callB call_len_seq (by rfl) T.len PySem.boot_len (pa_cons (pv 3) pa_nil)) pe_int (nomark _)) (pw_or1 (pt_cmpR op_isN (pv 4) pe_non (nomark _)))))) (pss_one (ps_ret pe_non))
      pss_nil)
      (pss_one (ps_ret (pe_tup (pa_cons pe_str (pa_cons (pe_ix ix_tup (pv 3) pe_int (fun _ _ => rfl)) (pa_cons (pv 4) pa_nil)))))))))
      pss_nil)
      (pss_cons (ps_set (i := 2) scReadDeed.nd rfl (by first | exact Or.inl rfl | exact Or.inr rfl) (pe_has h_read_numbers (hr.mono (by decide)) (pa_cons (pe_slice sl_list (pv 1) (po_some pe_int) po_none) pa_nil)))
      (pss_cons (ps_if (PW.pt (pw_or (pt_cmpR op_isN (pv 2) pe_non (nomark _)) (pw_or (pt_cmpR op_notInKD (pe_ix ix_list (pv 1) pe_int (fun _ _ => rfl)) (pe_globE T.gNUMBERS) (by rfl)) (pw_or1 (pt_cmpR op_ne (pe_callB call_len_seq (by rfl) T.len PySem.boot_len (pa_cons (pv 2) pa_nil)) (pe_ix ix_kdict (pe_globE T.gNUMBERS) (pe_ix ix_list (pv 1) pe_int (fun _ _ => rfl)) (fun _ _ => rfl)) (nomark _)))))) (pss_one (ps_ret pe_non))
      pss_nil)
      (pss_one (ps_ret (pe_op op_catT (pe_tup (pa_cons (pe_ix ix_list (pv 1) pe_int (fun _ _ => rfl)) pa_nil)) (pv 2)))))))), ?_⟩
    have hsz : x.length + 2 ≤ sizeLine := Nat.le_trans (show _ ≤ 30000 by have := hx.short; omega) (by decide)
    refine ⟨_, rfl, ⟨_, rfl⟩, x, _, rfl, rfl, by decide +kernel, hsz, fun a ha' => ?_⟩
    have ok := hx.words tl_sp (by decide)
    have hne := split_ne (x := x) tl_sp (by decide)
    unfold deedD at k
    have ha : Wl (upd H a (.lst ((Txt.split x " ").map V.str))) a (Txt.split x " ") := upd_same
    have s0 := same_new (o := .lst ((Txt.split x " ").map V.str)) ha'
    generalize upd H a (.lst ((Txt.split x " ").map V.str)) = H0 at ha s0 ⊢
    generalize Txt.split x " " = ws at ok hne k ha
    have h0 : atI (ws.map V.str) 0 = some (.str (ws.headD "")) := by
      cases ws with
      | nil => exact absurd rfl hne
      | cons y r => exact atI_nat (j := 0) rfl
    refine ⟨_, rfl, a, _, 0, _, rfl, rfl, SqL.of ha, h0, rfl, _, rfl, ?_⟩
    rw [strD]
    unfold wordsD at k
    by_cases c1 : ws.headD "" = ("choose" : Str)
    · rw [if_pos c1] at k
      rw [decide_eq_true c1]
      refine iteT ?_
      refine ⟨_, rfl, 1, rfl, 2, rfl, slW ha (cut_midE V.str ws (i := 1) (j := 2) (n := 1) (m := 2) rfl rfl) fun q1 H1 s1 hq1 => ⟨q1, _, rfl, hq1, (ok.take 2).drop 1, fun v1 H2 s2 ht1 => ?_⟩⟩
      refine ⟨_, rfl, 2, rfl, slWn (ha.same (s1.trans s2)) (cut_fromE V.str ws (i := 2) (n := 2) rfl) fun q2 H3 s3 hq2 => ⟨q2, _, rfl, hq2, ok.drop 2, fun v2 H4 s4 ht2 => ?_⟩⟩
      have ht1 := ht1.same (s3.trans s4)
      have sA := s0.trans (s1.trans (s2.trans (s3.trans s4)))
      have e1 := ht1.isN
      have e2 := ht2.isN
      have ed : (ws.take 2).drop 1 = (ws.drop 1).take 1 := by rw [List.drop_take]
      rw [ed] at ht1 e1
      rw [isN_nums] at e1
      generalize nums ((ws.drop 1).take 1) = o1 at k ht1 e1
      refine ⟨_, rfl, rfl, _, rfl, ?_⟩
      rw [e1]
      cases o1 with
      | none => exact iteT (iteT (k _ _ sA .non))
      | some hs =>
        obtain ⟨a1, rfl, h1⟩ := ht1.tupI
        refine iteF ⟨_, rfl, a1, _, rfl, .inr (SqT.of h1), rfl, _, rfl, ?_⟩
        rw [ints_len]
        cases hs with
        | nil => exact iteT (iteT (k _ _ sA .non))
        | cons z r =>
          rw [decide_eq_false (show ¬ V.int (((z :: r).length : Nat) : Int) = V.int 0 from fun e => by injection e with e; rw [List.length_cons] at e; omega)]
          refine iteF ⟨_, rfl, rfl, _, rfl, ?_⟩
          rw [e2]
          have k : ∀ (v : V) (H' : Hp), Same H H' → Tp H' v (if isN (choiceD (ws.drop 2)) = true then .none else .tuple [.str "choose", .int z, choiceD (ws.drop 2)]) → Q v H' := k
          by_cases c2 : isN (choiceD (ws.drop 2)) = true
          · rw [if_pos c2] at k
            rw [c2]
            exact iteT (k _ _ sA .non)
          · rw [if_neg c2] at k
            rw [Bool.eq_false_iff.mpr c2]
            refine iteF ⟨_, rfl, a1, _, 0, .int z, rfl, rfl, SqT.of h1, atI_nat (j := 0) rfl, _, rfl, by show 3 ≤ sizeLine; decide, fun t ht => k _ _ (sA.trans (same_new ht)) ?_⟩
            exact .tup upd_same (.cons (.str _) (.cons (.int _) (.cons (ht2.same (same_new ht)) .nil)))
    · rw [if_neg c1] at k
      rw [decide_eq_false c1]
      refine iteF ?_
      refine ⟨_, rfl, 1, rfl, slWn ha (cut_fromE V.str ws (i := 1) (n := 1) rfl) fun q1 H1 s1 hq1 => ⟨q1, _, rfl, hq1, ok.drop 1, fun v1 H2 s2 ht1 => ?_⟩⟩
      have ha2 := ha.same (s1.trans s2)
      have sA := s0.trans (s1.trans s2)
      have e1 := ht1.isN
      rw [isN_nums] at e1
      generalize nums (ws.drop 1) = o1 at k ht1 e1
      refine ⟨_, rfl, rfl, _, rfl, ?_⟩
      rw [e1]
      cases o1 with
      | none => exact iteT (iteT (k _ _ sA .non))
      | some ns =>
        obtain ⟨a1, rfl, h1⟩ := ht1.tupI
        have k : ∀ (v : V) (H' : Hp), Same H H' → Tp H' v (if needs (ws.headD "") = some ns.length then .tuple (.str (ws.headD "") :: ns.map .int) else .none) → Q v H' := k
        obtain ⟨es, n, kl, kk, klo, kx⟩ := T.kN
        obtain ⟨rr, kr, km⟩ := kx (ws.headD "")
        refine iteF ⟨_, rfl, a, _, 0, _, rfl, rfl, SqL.of ha2, h0, D, _, rr.isSome, rfl, rfl, ⟨es, n, rr, kl, kk, kr, rfl, klo⟩, _, rfl, ?_⟩
        cases hn : needs (ws.headD "") with
        | none =>
          rw [hn] at km k
          have km : rr = none := km
          rw [if_neg (fun z => by cases z)] at k
          rw [km]
          exact iteT (iteT (k _ _ sA .non))
        | some m =>
          rw [hn] at km k
          obtain ⟨u, km, ru⟩ := (show ∃ u, rr = some u ∧ RelV (.int (m : Int)) u from km)
          rw [km]
          rw [km] at kr
          refine iteF ⟨_, rfl, a1, _, rfl, .inr (SqT.of h1), _, rfl, a, _, 0, _, rfl, rfl, SqL.of ha2, h0, D, _, _, rfl, rfl, ⟨es, n, u, kl, kk, kr, ru⟩, rfl, _, rfl, ?_⟩
          rw [ints_len]
          by_cases c2 : m = ns.length
          · rw [if_pos (by rw [c2])] at k
            rw [decide_eq_true (show V.int ((ns.length : Nat) : Int) = V.int (m : Int) by rw [c2])]
            refine iteF ⟨_, rfl, a, _, 0, _, rfl, rfl, SqL.of ha2, h0, by show 1 ≤ sizeLine; decide, fun t ht => ?_⟩
            have z1 := same_new (o := .tup [V.str (ws.headD "")]) ht
            have hm3 : m ≤ 3 := by
              unfold needs at hn
              split at hn
              · cases hn
                decide
              · split at hn
                · cases hn
                  decide
                · split at hn <;> cases hn
                  decide
            refine ⟨_, rfl, catT upd_same (z1 _ _ h1) (by simp) (by rw [ints_len, List.length_singleton]; omega) fun t2 H7 z2 ht2' => k _ _ (sA.trans (z1.trans z2)) ?_⟩
            exact .tup ht2' (.cons (.str _) (TpA.ints ns))
          · rw [if_neg (fun z => c2 (Option.some.inj z))] at k
            rw [decide_eq_false (show ¬ V.int ((ns.length : Nat) : Int) = V.int (m : Int) from fun z => c2 (by injection z with z; omega))]
            exact iteT (k _ _ sA .non)
end
end K99

/-! K99L1 -/
set_option Elab.async false
set_option linter.all false
set_option maxRecDepth 100000
set_option maxHeartbeats 1000000
namespace K99
open PySem L2 TL
open PyProof.Rows (envOfC)
theorem count_notdig (l : List Nat) : (0 < l.countP (fun c => !dig c)) ↔ l.all dig = false := by
  rw [List.countP_pos_iff]
  constructor
  · rintro ⟨c, hc, h⟩
    refine Bool.eq_false_iff.mpr fun z => ?_
    have := List.all_eq_true.mp z c hc
    rw [this] at h
    cases h
  · intro h
    obtain ⟨c, hc, h⟩ := List.all_eq_false.mp h
    exact ⟨c, hc, by simpa using h⟩
theorem LL.get {H : Hp} {F : Addr} {parts : List (List Str)} {i : Nat} {us : List Str} (h : LL H F parts) (e : parts[i]? = some us) : ∃ (ps : List Addr) (p : Addr), H F = some (.lst (ps.map V.ref)) ∧ (ps.map V.ref)[i]? = some (.ref p) ∧ Wl H p us := by
  obtain ⟨ps, h1, h2⟩ := h
  have hl := pair_len h2
  have hi : i < parts.length := (List.getElem?_eq_some_iff.mp e).1
  have hp : ps[i]? = some (ps[i]'(by omega)) := List.getElem?_eq_getElem _
  obtain ⟨us', e', hw⟩ := pair_get h2 hp
  rw [e] at e'
  cases e'
  exact ⟨ps, _, h1, by rw [List.getElem?_map, hp]; rfl, hw⟩
theorem pair_tail {H : Hp} : ∀ {ps : List Addr} {parts : List (List Str)}, Paired (WAt H) ps parts → Paired (WAt H) (ps.drop 1) parts.tail
  | _, _, .nil => .nil
  | _, _, .cons _ b => b
theorem cut0 (m : Str) (ws : List Str) : (cut m ws)[0]? = some ((cut m ws).headD []) := by
  rw [cut_cons_ht m ws]
  rfl

section
variable {P : Program} {w : World} {K : PySem.W.Frag} {mg : Str → Option Value} {base : Heap} {D : Addr}
abbrev sLawInteger : Stmt := top 39
theorem scLawInteger : FnScope ["_law_word", "_law_digits", "_law_sign"] ["_law_word"] (defScope sLawInteger) := ⟨rfl, rfl, rfl, by decide +kernel, rfl, by decide +kernel, by decide +kernel⟩
def intD (x : Str) : PyData := if isInt x = true then .int (intOf x) else .none
def spLInt : Sp := fun vs H Q _ => ∃ x : Str, vs = [.str x] ∧ x.length ≤ 30000 ∧ ∀ (v : V) (H' : Hp), Same H H' → Tp H' v (intD x) → Q v H'
theorem has__law_integer (T : Txt K w mg D) : Has P w K mg base "_law_integer" ["_law_word"] 1 spLInt := by
  refine T.d__law_integer.has scLawInteger (fun vs H Q E h => ?_) (fun f cdv A outer s H vs Q E hr h => ?_)
  · obtain ⟨x, rfl, _⟩ := h
    rfl
  · obtain ⟨x, rfl, hx, k⟩ := h
    refine ⟨_, (pss_cons (ps_set (i := 1) scLawInteger.nd rfl (by first | exact Or.inl rfl | exact Or.inr rfl) (pv 0))
      (pss_cons (ps_if (pt_cmpR op_eq (pe_slice sl_str (pv 0) po_none (po_some pe_int)) pe_str (nomark _)) (pss_one (ps_set (i := 1) scLawInteger.nd rfl (by first | exact Or.inl rfl | exact Or.inr rfl) (pe_slice sl_str (pv 0) (po_some pe_int) po_none)))
      pss_nil)
      (pss_cons (ps_if (PW.pt (pw_or (pt_cmpR op_eq (pv 1) pe_str (nomark _)) (pw_or (pt_cmpR op_gt (pe_callB call_len_str (by rfl) T.len PySem.boot_len (pa_cons (pv 1) pa_nil)) pe_int (nomark _)) (pw_or1 (pt_cmpR op_gt (pe_callB call_len_seq (by rfl) T.len PySem.boot_len (pa_cons (pe_lc (own := [("_law_sign", 2)]) rfl scLawInteger.nd (pi_str (pv 1)) (blkOk_by (own := [("_law_sign", 2)]) (N := ["_law_word", "_law_digits", "_law_sign"]) (sc := defScope sLawInteger) (by decide +kernel)) (fun _ _ _ _ _ => pg_name (i := 2) scLawInteger.nd rfl (Or.inl rfl)) (fun _ _ _ _ _ => (pts_one (pt_cmpR op_notIn_sign (pv 2) pe_str (by rfl)))) (fun _ _ _ _ _ => (pv 2))) pa_nil)) pe_int (nomark _)))))) (pss_one (ps_ret pe_non))
      pss_nil)
      (pss_cons (ps_if (PW.pt (pw_and (pt_cmpR op_eq (pe_ix ix_str (pv 1) pe_int (fun _ _ => rfl)) pe_str (nomark _)) (pw_and1 (pt_cmpR op_ne (pv 0) pe_str (nomark _))))) (pss_one (ps_ret pe_non))
      pss_nil)
      (pss_one (ps_ret (pe_callTy call_int_str (by rfl) T.int (by decide +kernel) (pa_cons (pv 0) pa_nil)))))))), ?_⟩
    have hz := big hx
    have no : isInt x = false → ∀ H', Same H H' → Q .non H' := fun e H' s' => k _ _ s' (by unfold intD; rw [e, if_neg Bool.false_ne_true]; exact .non)
    refine ⟨_, rfl, ?_⟩
    refine ⟨_, rfl, 1, rfl, x, rfl, hz, rfl, _, rfl, ?_⟩
    have ec : decide (V.str (cutS x none (some 1)) = V.str "-") = decide ((tl x).take 1 = [45]) := by
      refine decide_eq_decide.mpr ?_
      rw [strEq, tl_minus]
      have e := tl_to x 1
      rw [show ((1 : Nat) : Int) = 1 from rfl] at e
      rw [e]
    rw [ec]
    have edS : decide ((tl x).take 1 = [45]) = true → cutS x (some 1) none = dS x := fun c => by
      unfold dS
      rw [if_pos (of_decide_eq_true c)]
    have edS2 : ¬ decide ((tl x).take 1 = [45]) = true → x = dS x := fun c => by
      unfold dS
      rw [if_neg (fun z => c (decide_eq_true z))]
    apply ite_imp
    · intro c g
      refine ⟨_, rfl, 1, rfl, x, rfl, hz, ?_⟩
      rw [edS c]
      exact g
    · intro c g
      have e : V.str x = V.str (dS x) := congrArg V.str (edS2 c)
      have g' := g
      rw [← e] at g'
      exact g'
    have hd := dS_len x
    have hdz : (dS x).length ≤ sizeLine := Nat.le_trans hd hz
    have hlen : (dS x).length = (dgs (tl x)).length := by rw [len_tl, tl_dS]
    refine ⟨_, rfl, rfl, _, rfl, ?_⟩
    by_cases c1 : dgs (tl x) = []
    · rw [decide_eq_true (show V.str (dS x) = V.str "" from strEq.mpr (by rw [tl_dS, c1, tl_empty]))]
      refine iteT (iteT (no ?_ _ (Same.refl _)))
      unfold isInt
      rw [c1]
      simp
    · rw [decide_eq_false (show ¬ V.str (dS x) = V.str "" from fun z => c1 (by have := strEq.mp z; rw [tl_dS, tl_empty] at this; exact this))]
      refine iteF ⟨_, rfl, _, rfl, hdz, _, _, rfl, rfl, _, rfl, ?_⟩
      by_cases c2 : (dgs (tl x)).length ≤ 60
      · rw [decide_eq_false (show ¬ (60 : Int) < ((dS x).length : Int) by omega)]
        refine iteF ?_
        refine ⟨_, rfl, _, rfl, fun D1 hD1 => lc_it walk_str (fun i H' => Same H H' ∧ ∃ acc, H' D1 = some (.lst acc) ∧ acc.length = ((tl (dS x)).take i).countP (fun c => !dig c)) ⟨same_own (Same.refl _) hD1, [], upd_same, by rw [List.take_zero]; rfl⟩ (fun _ _ _ _ => trivial) ?_ ?_⟩
        · rintro i y H1 H2 hi ⟨s1, acc, hacc, hl⟩ ⟨rfl, c, hc, rfl⟩
          have hc' : (tl (dS x))[i]? = some c := by
            rw [← hc]
            simp
          refine ⟨rfl, _, rfl, c, _, rfl, rfl, _, rfl, ?_⟩
          have e1 : decide (c ∈ ("0123456789" : Str).cps.toList) = dig c := dig_in c
          rw [e1]
          have e2 : ((tl (dS x)).take (i + 1)).countP (fun c => !dig c) = ((tl (dS x)).take i).countP (fun c => !dig c) + (if dig c then 0 else 1) := by
            rw [List.take_succ, hc', List.countP_append]
            congr 1
            cases h : dig c <;> simp [h]
          cases hg : dig c with
          | true =>
            refine iteF ⟨s1, acc, hacc, ?_⟩
            rw [e2, hl, hg]
            rfl
          | false =>
            refine iteT ⟨_, rfl, acc, hacc, ?_, same_own s1 hD1, _, upd_same, ?_⟩
            · have := List.countP_le_length (p := fun c => !dig c) (l := (tl (dS x)).take i)
              rw [List.length_take, tl_dS] at this
              rw [tl_dS] at hl
              exact Nat.lt_of_le_of_lt (show _ ≤ 60 by omega) (by decide)
            · rw [e2, hg, List.length_append, hl]
              rfl
        · rintro H1 ⟨s1, acc, hacc, hl⟩
          have e : ((tl (dS x)).take (dS x).cps.size) = tl (dS x) := List.take_of_length_le (by simp [tl])
          rw [e, tl_dS] at hl
          refine ⟨D1, _, rfl, .inl (SqL.of hacc), _, _, rfl, rfl, _, rfl, ?_⟩
          have cn := count_notdig (dgs (tl x))
          by_cases c3 : (dgs (tl x)).all dig = true
          · have h0 : ¬ (0 : Int) < ((acc.length : Nat) : Int) := fun z => by
              have := cn.mp (by omega)
              rw [c3] at this
              cases this
            rw [decide_eq_false h0]
            refine iteF ?_
            obtain ⟨c, r, ecr⟩ : ∃ c r, dgs (tl x) = c :: r := by
              cases h : dgs (tl x) with
              | nil => exact absurd h c1
              | cons c r => exact ⟨c, r, rfl⟩
            have at0 : atI (dS x).cps.toList 0 = some c := by
              have e : (dS x).cps.toList = c :: r := by rw [← ecr, ← tl_dS]
              rw [e]
              exact atI_nat (j := 0) rfl
            refine ⟨_, rfl, _, 0, c, rfl, rfl, hdz, at0, rfl, _, rfl, ?_⟩
            have e0 : (V.str (⟨#[c]⟩ : Str) = V.str "0") ↔ c = 48 := by
              rw [strEq, tl_zero]
              show [c] = [48] ↔ _
              constructor
              · intro h
                injection h
              · intro h
                rw [h]
            have fin : isInt x = (!decide (c = 48) || decide (tl x = [48])) := by
              unfold isInt
              rw [c3, ecr]
              rw [ecr] at c2
              rw [decide_eq_true c2]
              simp
            by_cases c4 : c = 48
            · rw [decide_eq_true (e0.mpr c4)]
              refine iteT ⟨_, rfl, rfl, _, rfl, ?_⟩
              have e4 : decide (V.str x = V.str "0") = decide (tl x = [48]) := decide_eq_decide.mpr (by rw [strEq, tl_zero])
              rw [e4]
              rw [decide_eq_true c4] at fin
              by_cases c5 : tl x = [48]
              · rw [decide_eq_true c5] at fin ⊢
                have fin : isInt x = true := fin
                have hv := isInt_val fin
                refine iteF ⟨_, rfl, x, _, rfl, hv.1, by have := hv.2; omega, k _ _ s1 ?_⟩
                unfold intD
                rw [if_pos fin]
                exact .int _
              · rw [decide_eq_false c5] at fin ⊢
                exact iteT (no fin _ s1)
            · rw [decide_eq_false (fun z => c4 (e0.mp z))]
              rw [decide_eq_false c4] at fin
              have fin : isInt x = true := fin
              have hv := isInt_val fin
              refine iteF (iteF ⟨_, rfl, x, _, rfl, hv.1, by have := hv.2; omega, k _ _ s1 ?_⟩)
              unfold intD
              rw [if_pos fin]
              exact .int _
          · have c3 := Bool.eq_false_iff.mpr c3
            rw [decide_eq_true (show (0 : Int) < ((acc.length : Nat) : Int) by have := cn.mpr c3; omega)]
            refine iteT (no ?_ _ s1)
            unfold isInt
            rw [c3]
            simp
      · rw [decide_eq_true (show (60 : Int) < ((dS x).length : Int) by omega)]
        refine iteT (iteT (no ?_ _ (Same.refl _)))
        unfold isInt
        rw [decide_eq_false c2]
        simp

abbrev sLawIntegers : Stmt := top 40
theorem scLawIntegers : FnScope ["_law_words_here", "_law_found", "_law_word"] ["_law_words_here"] (defScope sLawIntegers) := ⟨rfl, rfl, rfl, by decide +kernel, rfl, by decide +kernel, by decide +kernel⟩
theorem has__law_integers (T : Txt K w mg D) : Has P w K mg base "_law_integers" ["_law_words_here"] 2 spNums := by
  have h__law_integer : Has P w K mg base "_law_integer" ["_law_word"] 1 spLInt := has__law_integer T
  refine T.d__law_integers.has scLawIntegers (fun vs H Q E h => ?_) (fun f cdv A outer s H vs Q E hr h => ?_)
  · obtain ⟨a, ws, rfl, _⟩ := h
    rfl
  · obtain ⟨a, ws, rfl, ha, ok, k⟩ := h
    refine ⟨_, (pss_cons (ps_setLc (i := 1) (own := [("_law_word", 2)]) rfl scLawIntegers.nd rfl rfl (sw_true rfl rfl rfl (by decide +kernel)) (pi_list (pv 0)) (blkOk_by (own := [("_law_word", 2)]) (N := ["_law_words_here", "_law_found", "_law_word"]) (sc := defScope sLawIntegers) (by decide +kernel)) (fun _ _ _ _ _ => pg_name (i := 2) scLawIntegers.nd rfl (Or.inl rfl)) (fun _ _ _ _ _ => pts_nil) (fun _ _ _ _ _ => (pe_has h__law_integer (hr.mono (by decide)) (pa_cons (pv 2) pa_nil))))
      (pss_cons (ps_if (pt_cmpR (op_inD (hu65 hr)) pe_non (pv 1) (by rfl)) (pss_one (ps_ret pe_non))
      pss_nil)
      (pss_one (ps_ret (pe_callTy call_tuple_of (by rfl) T.tuple (by decide +kernel) (pa_cons (pv 1) pa_nil)))))), ?_⟩
    have hz : (ws.map V.str).length ≤ sizeLine := by rw [List.length_map]; exact big ok.few
    refine ⟨_, rfl, a, rfl, ⟨_, SqL.of ha⟩, fun D1 hD1 => lc_map (K := K) (onS intD) (SqL.of ha) hD1 hz ?_ ?_⟩
    · intro i x H1 Q1 hi s1 k1
      obtain ⟨x, rfl, _, hm⟩ := str_at hi
      exact ⟨_, rfl, x, rfl, (ok.short x hm).1, fun v H' s' ht => k1 v H' s' ht⟩
    · intro H1 acc s1 hacc ht
      rw [map_onS] at ht
      refine ⟨_, rfl, .none, _, .non, .lst (SqL.of hacc) (TpA.dp _ _ ht), by decide +kernel, Shp.list fun d hd => ?_, _, rfl, ?_⟩
      · obtain ⟨x, hx, rfl⟩ := List.mem_map.mp hd
        unfold intD
        split
        · exact (Sh.int _).shp (by decide)
        · exact Shp.none
      · have ea : ((ws.map intD).any fun z => PyData.eqv z .none) = !ws.all isInt := by
          rw [List.any_map, List.not_all_eq_any_not]
          congr 1
          funext x
          show PyData.eqv (intD x) .none = !isInt x
          rw [eqv_none]
          unfold intD
          cases isInt x <;> rfl
        rw [ea]
        by_cases c : ws.all isInt = true
        · rw [c]
          have e : ws.map intD = (ws.map intOf).map PyData.int := by
            rw [List.map_map]
            refine List.map_congr_left fun x hx => ?_
            show intD x = .int (intOf x)
            unfold intD
            rw [if_pos (List.all_eq_true.mp c x hx)]
          rw [e] at ht
          have e2 := ht.ints_inv
          subst e2
          refine iteF ⟨_, rfl, D1, _, rfl, .inl ⟨SqL.of hacc, fun l hl => k _ _ (s1.trans (same_new hl)) ?_⟩⟩
          rw [nums_ok c]
          exact Tp.ofI upd_same
        · rw [Bool.eq_false_iff.mpr c]
          refine iteT (k _ _ s1 ?_)
          rw [nums_no c]
          exact .non

abbrev sLawReadSide : Stmt := top 42
theorem scLawReadSide : FnScope ["_law_words_here", "_law_cut_here", "_law_groups", "_law_row", "_law_wishes", "_law_numbers_here"] ["_law_words_here"] (defScope sLawReadSide) := ⟨rfl, rfl, rfl, by decide +kernel, rfl, by decide +kernel, by decide +kernel⟩
theorem has__law_read_side (T : Txt K w mg D) : Has P w K mg base "_law_read_side" ["_law_words_here"] 3 (spW sideW) := by
  have h__law_cut : Has P w K mg base "_law_cut" ["_law_words_here", "_law_mark"] 1 spCut := has__law_cut T
  have h__law_integers : Has P w K mg base "_law_integers" ["_law_words_here"] 2 spNums := has__law_integers T
  refine T.d__law_read_side.has scLawReadSide (fun vs H Q E h => ?_) (fun f cdv A outer s H vs Q E hr h => ?_)
  · obtain ⟨a, ws, rfl, _⟩ := h
    rfl
  · obtain ⟨a, ws, rfl, ha, ok, k⟩ := h
    refine ⟨_, (pss_cons (ps_set (i := 1) scLawReadSide.nd rfl (by first | exact Or.inl rfl | exact Or.inr rfl) (pe_has h__law_cut (hr.mono (by decide)) (pa_cons (pv 0) (pa_cons pe_str pa_nil))))
      (pss_cons (ps_set (i := 2) scLawReadSide.nd rfl (by first | exact Or.inl rfl | exact Or.inr rfl) (pe_lst pa_nil))
      (pss_cons (ps_for PassesOwn.never rfl (pi_list (pe_slice sl_list (pv 1) (po_some pe_int) po_none)) (pg_name (i := 3) scLawReadSide.nd rfl (Or.inl rfl))
      (pss_cons (ps_if (PW.pt (pw_or (pt_cmpR op_lt (pe_callB call_len_seq (by rfl) T.len PySem.boot_len (pa_cons (pv 3) pa_nil)) pe_int (nomark _)) (pw_or1 (pt_cmpR op_ne (pe_ix ix_list (pv 3) pe_int (fun _ _ => rfl)) pe_str (nomark _))))) (pss_one (ps_ret pe_non))
      pss_nil)
      (pss_cons (ps_set (i := 5) scLawReadSide.nd rfl (by first | exact Or.inl rfl | exact Or.inr rfl) (pe_has h__law_integers (hr.mono (by decide)) (pa_cons (pe_op op_cat (pe_slice sl_list (pv 3) po_none (po_some pe_int)) (pe_slice sl_list (pv 3) (po_some pe_int) po_none)) pa_nil)))
      (pss_cons (ps_if (pt_cmpR op_isN (pv 5) pe_non (nomark _)) (pss_one (ps_ret pe_non))
      pss_nil)
      (pss_one (ps_expr (pe_bm PySem.F.plainAttrs_list PySem.F.slot_list_append PySem.F.type_list_append mt_append (pv 2) (pa_cons (pe_tup (pa_cons (pe_slice sl_tup (pv 5) (po_some pe_int) po_none) (pa_cons (pe_ix ix_tup (pv 5) pe_int (fun _ _ => rfl)) pa_nil))) pa_nil))))))))
      (pss_cons (ps_set (i := 4) scLawReadSide.nd rfl (by first | exact Or.inl rfl | exact Or.inr rfl) (pe_has h__law_integers (hr.mono (by decide)) (pa_cons (pe_ix ix_list (pv 1) pe_int (fun _ _ => rfl)) pa_nil)))
      (pss_cons (ps_if (pt_cmpR op_isN (pv 4) pe_non (nomark _)) (pss_one (ps_ret pe_non))
      pss_nil)
      (pss_one (ps_ret (pe_tup (pa_cons (pv 4) (pa_cons (pe_callTy call_tuple_of (by rfl) T.tuple (by decide +kernel) (pa_cons (pv 2) pa_nil)) pa_nil)))))))))), ?_⟩
    refine ⟨_, rfl, a, ws, _, rfl, ha, ok, fun F H1 s1 hL => ?_⟩
    have okp : ∀ p ∈ cut ("cap" : Str) ws, WOk p := fun p hp => ok.part hp
    have few : (cut ("cap" : Str) ws).tail.length ≤ 30000 := by
      rw [List.length_tail, cut_length]
      have := List.count_le_length (a := ("cap" : Str)) (l := ws)
      have := ok.few
      omega
    obtain ⟨ps0, p0, hF0, hp0, hw0⟩ := hL.get (cut0 ("cap" : Str) ws)
    obtain ⟨ps, hF, hP⟩ := hL
    have ok0 : WOk ((cut ("cap" : Str) ws).headD []) := okp _ (List.mem_of_getElem? (cut0 ("cap" : Str) ws))
    have okt : ∀ p ∈ (cut ("cap" : Str) ws).tail, WOk p := fun p hp => okp p (List.mem_of_mem_tail hp)
    have hP2 : Paired (WAt H1) (ps.drop 1) (cut ("cap" : Str) ws).tail := pair_tail hP
    have side0 : side ws = both (nums ((cut ("cap" : Str) ws).headD [])) (groups (cut ("cap" : Str) ws).tail) := rfl
    generalize (cut ("cap" : Str) ws).tail = parts at hP2 okt few side0
    generalize (cut ("cap" : Str) ws).headD [] = h0 at hw0 ok0 side0
    refine ⟨Nat.zero_le _, fun G hG => ?_⟩
    have sG := same_new (o := .lst []) hG
    have hpl := pair_len hP2
    refine ⟨_, rfl, 1, rfl, F, _, rfl, SqL.of (sG _ _ hF), fun F2 hF2 => ?_⟩
    rw [show cutV (ps.map V.ref) (some 1) none = (ps.drop 1).map V.ref from cut_fromE V.ref ps (i := 1) (n := 1) rfl]
    have sF := same_new (o := .lst ((ps.drop 1).map V.ref)) hF2
    have hGF : G ≠ F2 := ptr_ne hF2
    generalize hpd : ps.drop 1 = qs at hP2 hpl sF ⊢
    have base1 : Same H1 (upd (upd H1 G (.lst [])) F2 (.lst (qs.map V.ref))) := sG.trans sF
    have hF2n : H1 F2 = none := sG.free hF2
    refine ⟨F2, rfl, ⟨_, SqL.of upd_same⟩, for_list (K := K) (a := F2) (xs := qs.map V.ref) (fun i σ H' => ∃ (v3 v5 : Option V) (acc : List V), σ = [some (.ref a), some (.ref F), some (.ref G), v3, none, v5] ∧ FillSt H1 H' G acc ((parts.take i).map gD) ∧ H' F2 = some (.lst (qs.map V.ref)) ∧ ∀ p ∈ parts.take i, (group p).isSome = true)
      ⟨none, none, [], rfl, ⟨base1, hG, by rw [upd_ne hGF]; exact upd_same, by rw [List.take_zero]; exact .nil⟩, upd_same, fun p hp => by rw [List.take_zero] at hp; cases hp⟩ (fun i σ H' _ ⟨_, _, _, _, _, c, _⟩ => SqL.of c) ?_ ?_⟩
    · rintro i x σ H2 hi ⟨v3, v5, acc, rfl, c, hF2', hall⟩
      obtain ⟨p, rfl, hpi⟩ := ref_at hi
      obtain ⟨us, hus, hu⟩ := pair_get hP2 hpi
      have hum : us ∈ parts := List.mem_of_getElem? hus
      have oku := okt us hum
      have hu2 : Wl H2 p us := hu.same c.same
      have hlt : i < parts.length := (List.getElem?_eq_some_iff.mp hus).1
      have no : group us = none → ∀ H3, Same H2 H3 → Q .non H3 := fun hg H3 s3 => k _ _ (s1.trans (c.same.trans s3)) (by
        unfold sideW
        rw [side0, groups_no hum hg]
        cases nums h0 <;> exact .non)
      refine ⟨_, rfl, p, _, rfl, .inl (SqL.of hu2), _, _, rfl, rfl, _, rfl, ?_⟩
      rw [List.length_map]
      by_cases c2 : us.length < 3
      · rw [decide_eq_true (show ((us.length : Nat) : Int) < 3 by omega)]
        exact iteT (iteT (no (group_no (.inl c2)) _ (Same.refl _)))
      · rw [decide_eq_false (show ¬ ((us.length : Nat) : Int) < 3 by omega)]
        have h1 : us[1]? = some (us[1]'(by omega)) := List.getElem?_eq_getElem _
        refine iteF ⟨_, rfl, p, _, 1, _, rfl, rfl, SqL.of hu2, atI_nat (j := 1) (by rw [List.getElem?_map, h1]; rfl), rfl, _, rfl, ?_⟩
        rw [strD]
        by_cases c1 : us[1]'(by omega) = ("of" : Str)
        · rw [decide_eq_true c1]
          have c1' : us[1]? = some ("of" : Str) := by rw [h1, c1]
          have hgy := group_yes (p := us) fun z => z.elim c2 fun z => z c1'
          refine iteF ⟨_, rfl, 1, rfl, slW hu2 (cut_toE V.str us (i := 1) (n := 1) rfl) fun q5 H5 s5 hq5 => ⟨_, rfl, 2, rfl, slWn (hu2.same s5) (cut_fromE V.str us (i := 2) (n := 2) rfl) fun q6 H6 s6 hq6 => ?_⟩⟩
          refine ⟨q5, q6, _, _, rfl, rfl, hq5.same s6, hq6, ?_, fun q7 hq7 => ?_⟩
          · rw [List.length_map, List.length_map, List.length_take, List.length_drop]
            have := oku.few
            exact big (by omega)
          · have s7 := (s5.trans s6).trans (same_new (o := .lst ((us.take 1).map V.str ++ (us.drop 2).map V.str)) hq7)
            refine ⟨q7, us.take 1 ++ us.drop 2, rfl, by rw [← List.map_append]; exact upd_same, oku.app, fun v H8 s8 ht => ?_⟩
            cases hn : nums (us.take 1 ++ us.drop 2) with
            | none =>
              rw [hn] at ht hgy
              cases ht
              exact ⟨_, rfl, rfl, _, rfl, iteT (no hgy _ (s7.trans s8))⟩
            | some ns =>
              rw [hn] at ht hgy
              obtain ⟨q, rfl, hq⟩ := ht.tupI
              have hl := (nums_some hn).2.2
              rw [List.length_append, List.length_take, List.length_drop] at hl
              have hl2 : 2 ≤ ns.length := by omega
              have hne : ns ≠ [] := fun z => by rw [z] at hl2; cases hl2
              refine ⟨_, rfl, rfl, _, rfl, iteF ?_⟩
              have s9 := s7.trans s8
              refine ⟨_, rfl, .inl ⟨rfl, _, SqL.of (s9 _ _ c.hG)⟩, _, rfl, 1, rfl, q, _, rfl, SqT.of hq, ?_, fun t ht2 => ?_⟩
              · intro z
                have z1 := z.1
                rw [show (some (1 : Int)) = some (((1 : Nat) : Int)) from rfl, sI, List.length_map] at z1
                omega
              · have e1 := cut_fromE V.int ns (i := 1) (n := 1) rfl
                rw [e1]
                have sT := same_new (o := .tup ((ns.drop 1).map V.int)) ht2
                refine ⟨_, rfl, q, _, 0, .int (ns.headD 0), rfl, rfl, SqT.of (sT _ _ hq), head_at hne, by show 2 ≤ sizeLine; decide, fun p2 hp2 => ?_⟩
                have s10 := s9.trans (sT.trans (same_new (o := .tup [.ref t, .int (ns.headD 0)]) hp2))
                refine ⟨G, _, _, rfl, rfl, s10 _ _ c.hG, ?_, _, _, acc ++ [.ref p2], rfl, ?_, ?_, ?_⟩
                · rw [c.tp.length, List.length_map, List.length_take]
                  exact Nat.lt_of_le_of_lt (show _ ≤ 30000 by omega) (by decide)
                · have hp := c.push s10 (grp_pair (H4 := H2) ht2 hp2 rfl)
                  rw [take_map_succ hus]
                  have eg : gD us = grpD (ns.tail, ns.headD 0) := by
                    unfold gD
                    rw [hgy]
                    rfl
                  rw [eg]
                  exact hp
                · rw [upd_ne (fun z => hGF z.symm)]
                  exact s10 _ _ hF2'
                · intro z hz
                  rw [List.take_succ, hus] at hz
                  rcases List.mem_append.mp hz with hz | hz
                  · exact hall z hz
                  · have e : z = us := by simpa using hz
                    rw [e, hgy]
                    rfl
        · rw [decide_eq_false c1]
          exact iteT (no (group_no (.inr fun z => c1 (by rw [h1] at z; exact Option.some.inj z))) _ (Same.refl _))
    · rintro σ H2 ⟨v3, v5, acc, rfl, c, hF2', hall⟩
      rw [List.length_map, hpl, List.take_length] at c hall
      have hF0' := c.same _ _ hF0
      refine ⟨_, rfl, F, _, 0, _, rfl, rfl, SqL.of hF0', atI_nat (j := 0) hp0, p0, h0, rfl, hw0.same c.same, ok0, fun v H3 s3 ht => ?_⟩
      have e1 := ht.isN
      rw [isN_nums] at e1
      have sA := s1.trans (c.same.trans s3)
      refine ⟨_, rfl, rfl, _, rfl, ?_⟩
      rw [e1]
      cases hn : nums h0 with
      | none =>
        rw [hn] at side0
        refine iteT (k _ _ sA ?_)
        unfold sideW
        rw [side0]
        exact .non
      | some ns =>
        rw [hn] at ht side0
        refine iteF ⟨_, rfl, _, rfl, G, _, rfl, .inl ⟨SqL.of (s3 _ _ c.hG), fun l hl => ⟨by show 2 ≤ sizeLine; decide, fun t ht2 => k _ _ (sA.trans ((same_new hl).trans (same_new ht2))) ?_⟩⟩⟩
        have sN := (same_new (o := .tup acc) hl).trans (same_new (o := .tup [v, V.ref l]) ht2)
        have hg := groups_yes hall
        cases hgs : groups parts with
        | none =>
          rw [hgs] at hg
          cases hg
        | some gs =>
          rw [hgs] at hg side0
          unfold sideW
          rw [side0]
          have hg : gsD gs = .tuple (parts.map gD) := hg
          show Tp _ _ (.tuple [tupI ns, gsD gs])
          rw [hg]
          exact .tup upd_same (.cons (ht.same sN) (.cons (.tup (by rw [upd_ne (ptr_ne ht2)]; exact upd_same) (c.tp.same (s3.trans sN))) .nil))
end
end K99

/-! K99L2 -/
set_option Elab.async false
set_option linter.all false
set_option maxRecDepth 100000
set_option maxHeartbeats 1000000
namespace K99
open PySem L2 TL
open PyProof.Rows (envOfC)
theorem len2 {α : Type} {l : List α} (h : l.length = 2) : ∃ a b, l = [a, b] := by
  match l, h with
  | [a, b], _ => exact ⟨a, b, rfl⟩
theorem kind_ix {kd : Str} (h : kd ∈ (["maker", "sides", "trader"] : List Str)) : ([V.int 1, V.int 1, V.int 2] : List V)[(["maker", "sides", "trader"] : List Str).idxOf kd]? = some (.int (if kd = ("trader" : Str) then 2 else 1)) := by
  simp only [List.mem_cons, List.not_mem_nil, or_false] at h
  rcases h with e | e | e <;> subst e <;> decide +kernel
theorem intEq {a b : Int} : decide (V.int a = V.int b) = decide (a = b) := decide_eq_decide.mpr ⟨fun z => (by injection z), fun z => by rw [z]⟩

section
variable {P : Program} {w : World} {K : PySem.W.Frag} {mg : Str → Option Value} {base : Heap} {D : Addr}
abbrev sLawReadWishes : Stmt := top 43
theorem scLawReadWishes : FnScope ["_law_kind", "_law_words_here", "_law_sells", "_law_buys", "_law_rows", "_law_bought", "_law_sold"] ["_law_kind", "_law_words_here"] (defScope sLawReadWishes) := ⟨rfl, rfl, rfl, by decide +kernel, rfl, by decide +kernel, by decide +kernel⟩
def spWishL : Sp := fun vs H Q _ => ∃ (kd : Str) (a : Addr) (ws : List Str), vs = [.str kd, .ref a] ∧ (kd = "caps" ∨ kd ∈ (["maker", "sides", "trader"] : List Str)) ∧ Wl H a ws ∧ WOk ws ∧ ∀ (v : V) (H' : Hp), Same H H' → Tp H' v (wishD kd ws) → Q v H'
theorem has__law_read_wishes (T : Txt K w mg D) : Has P w K mg base "_law_read_wishes" ["_law_kind", "_law_words_here"] 4 spWishL := by
  have h__law_cut : Has P w K mg base "_law_cut" ["_law_words_here", "_law_mark"] 1 spCut := has__law_cut T
  have h__law_integers : Has P w K mg base "_law_integers" ["_law_words_here"] 2 spNums := has__law_integers T
  have h__law_read_side : Has P w K mg base "_law_read_side" ["_law_words_here"] 3 (spW sideW) := has__law_read_side T
  refine T.d__law_read_wishes.has scLawReadWishes (fun vs H Q E h => ?_) (fun f cdv A outer s H vs Q E hr h => ?_)
  · obtain ⟨kd, a, ws, rfl, _⟩ := h
    rfl
  · obtain ⟨kd, a, ws, rfl, hk, ha, ok, k⟩ := h
    refine ⟨_, (pss_cons (ps_set (i := 2) scLawReadWishes.nd rfl (by first | exact Or.inl rfl | exact Or.inr rfl) (pe_has h__law_cut (hr.mono (by decide)) (pa_cons (pv 1) (pa_cons pe_str pa_nil))))
      (pss_cons (ps_set (i := 3) scLawReadWishes.nd rfl (by first | exact Or.inl rfl | exact Or.inr rfl) (pe_has h__law_cut (hr.mono (by decide)) (pa_cons (pe_ix ix_list (pv 2) pe_int (fun _ _ => rfl)) (pa_cons pe_str pa_nil))))
      (pss_cons (ps_if (PW.pt (pw_or (pt_cmpR op_ne (pe_callB call_len_seq (by rfl) T.len PySem.boot_len (pa_cons (pv 2) pa_nil)) pe_int (nomark _)) (pw_or (pt_cmpR op_ne (pe_callB call_len_seq (by rfl) T.len PySem.boot_len (pa_cons (pv 3) pa_nil)) pe_int (nomark _)) (pw_or1 (pt_cmpR op_in_seq pe_str (pe_ix ix_list (pv 2) pe_int (fun _ _ => rfl)) (by rfl)))))) (pss_one (ps_ret pe_non))
      pss_nil)
      (pss_cons (ps_if (pt_cmpR op_eq (pv 0) pe_str (nomark _)) (pss_cons (ps_set (i := 5) scLawReadWishes.nd rfl (by first | exact Or.inl rfl | exact Or.inr rfl) (pe_has h__law_read_side (hr.mono (by decide)) (pa_cons (pe_ix ix_list (pv 3) pe_int (fun _ _ => rfl)) pa_nil)))
      (pss_cons (ps_set (i := 6) scLawReadWishes.nd rfl (by first | exact Or.inl rfl | exact Or.inr rfl) (pe_has h__law_read_side (hr.mono (by decide)) (pa_cons (pe_ix ix_list (pv 2) pe_int (fun _ _ => rfl)) pa_nil)))
      (pss_cons (ps_if (PW.pt (pw_or (pt_cmpR op_gt (pe_callB call_len_seq (by rfl) T.len PySem.boot_len (pa_cons (pe_ix ix_list (pv 3) pe_int (fun _ _ => rfl)) pa_nil)) pe_int (nomark _)) (pw_or (pt_cmpR op_isN (pv 5) pe_non (nomark _)) (pw_or1 (pt_cmpR op_isN (pv 6) pe_non (nomark _)))))) (pss_one (ps_ret pe_non))
      pss_nil)
      (pss_one (ps_ret (pe_op op_catT (pe_op op_catT (pe_tup (pa_cons pe_str pa_nil)) (pv 5)) (pv 6)))))))
      pss_nil)
      (pss_cons (ps_set (i := 4) scLawReadWishes.nd rfl (by first | exact Or.inl rfl | exact Or.inr rfl) (pe_lst (pa_cons (pe_has h__law_integers (hr.mono (by decide)) (pa_cons (pe_ix ix_list (pv 3) pe_int (fun _ _ => rfl)) pa_nil)) (pa_cons (pe_has h__law_integers (hr.mono (by decide)) (pa_cons (pe_ix ix_list (pv 3) pe_int (fun _ _ => rfl)) pa_nil)) (pa_cons (pe_has h__law_integers (hr.mono (by decide)) (pa_cons (pe_ix ix_list (pv 2) pe_int (fun _ _ => rfl)) pa_nil)) pa_nil)))))
      (pss_cons (ps_if (PW.pt (pw_or (pt_cmpR (op_inD (hu65 hr)) pe_non (pv 4) (by rfl)) (pw_or1 (pt_cmpR op_ne (pe_callB call_len_seq (by rfl) T.len PySem.boot_len (pa_cons (pe_ix ix_list (pv 4) pe_int (fun _ _ => rfl)) pa_nil)) (pe_ix ix_list (pe_lst (pa_cons pe_int (pa_cons pe_int (pa_cons pe_int pa_nil)))) (pe_bm PySem.F.plainAttrs_list PySem.F.slot_list_index PySem.F.type_list_index mt_index (pe_lst (pa_cons pe_str (pa_cons pe_str (pa_cons pe_str pa_nil)))) (pa_cons (pv 0) pa_nil)) (fun _ _ => rfl)) (nomark _))))) (pss_one (ps_ret pe_non))
      pss_nil)
      (pss_cons (ps_if (pt_cmpR op_eq (pv 0) pe_str (nomark _)) (pss_cons (ps_if (pt_cmpR op_eq (pe_callB call_len_seq (by rfl) T.len PySem.boot_len (pa_cons (pe_ix ix_list (pv 4) pe_int (fun _ _ => rfl)) pa_nil)) pe_int (nomark _)) (pss_one (ps_ret pe_non))
      pss_nil)
      (pss_one (ps_ret (pe_tup (pa_cons (pv 0) (pa_cons (pe_ix ix_tup (pe_ix ix_list (pv 4) pe_int (fun _ _ => rfl)) pe_int (fun _ _ => rfl)) (pa_cons (pe_slice sl_tup (pe_ix ix_list (pv 4) pe_int (fun _ _ => rfl)) po_none (po_some (pe_un un_neg pe_int))) (pa_cons (pe_ix ix_tup (pe_ix ix_list (pv 4) pe_int (fun _ _ => rfl)) (pe_un un_neg pe_int) (fun _ _ => rfl)) (pa_cons (pe_ix ix_list (pv 4) pe_int (fun _ _ => rfl)) pa_nil)))))))))
      pss_nil)
      (pss_one (ps_ret (pe_op op_catT (pe_op op_catT (pe_tup (pa_cons (pv 0) pa_nil)) (pe_ix ix_list (pv 4) pe_int (fun _ _ => rfl))) (pe_tup (pa_cons (pe_ix ix_list (pv 4) pe_int (fun _ _ => rfl)) (pa_cons (pe_ix ix_list (pv 4) pe_int (fun _ _ => rfl)) pa_nil))))))))))))), ?_⟩
    obtain ⟨n1, n2⟩ := wish_law ws
    refine ⟨_, rfl, a, ws, _, rfl, ha, ok, fun F H1 s1 hL => ?_⟩
    obtain ⟨ps, p0, hF, hp0, hw0⟩ := hL.get (cut0 ("sells" : Str) ws)
    have ok0 : WOk ((cut ("sells" : Str) ws).headD []) := ok.part (List.mem_of_getElem? (cut0 ("sells" : Str) ws))
    refine ⟨_, rfl, F, _, 0, _, rfl, rfl, SqL.of hF, atI_nat (j := 0) hp0, p0, _, _, rfl, hw0, ok0, fun G H2 s2 hM => ?_⟩
    have sA := s1.trans s2
    have no : parts3 ws = none → ∀ H3, Same H2 H3 → Q .non H3 := fun e H3 s3 => k _ _ (sA.trans s3) (by rw [wish_none e]; exact .non)
    have hF2 := s2 _ _ hF
    have hpl : ps.length = (cut ("sells" : Str) ws).length := by
      obtain ⟨ps', h1, h2⟩ := hL
      rw [hF] at h1
      injection h1 with h1
      injection h1 with h1
      have := congrArg List.length h1
      rw [List.length_map, List.length_map] at this
      rw [this]
      exact pair_len h2
    refine ⟨_, rfl, F, _, rfl, .inl (SqL.of hF2), rfl, _, rfl, ?_⟩
    rw [List.length_map, hpl, intEq]
    by_cases l1 : (cut ("sells" : Str) ws).length = 2
    · rw [decide_eq_true (show (((cut ("sells" : Str) ws).length : Nat) : Int) = 2 by omega)]
      obtain ⟨qs, hG, hP⟩ := id hM
      have hql := pair_len hP
      refine iteF ⟨_, rfl, G, _, rfl, .inl (SqL.of hG), rfl, _, rfl, ?_⟩
      rw [List.length_map, hql, intEq]
      by_cases l2 : (cut ("buys" : Str) ((cut ("sells" : Str) ws).headD [])).length = 2
      · rw [decide_eq_true (show (((cut ("buys" : Str) ((cut ("sells" : Str) ws).headD [])).length : Nat) : Int) = 2 by omega)]
        obtain ⟨s0, s1', hcs⟩ := len2 l1
        rw [hcs] at hL l2 hM ok0 hw0 n2
        obtain ⟨b0, b1, hcb⟩ := len2 l2
        have hcb' : cut ("buys" : Str) s0 = [b0, b1] := hcb
        rw [hcb] at hM
        obtain ⟨ps1, p1, hF1, hp1, hw1⟩ := (hL.same s2).get (i := 1) (us := s1') rfl
        obtain ⟨qs0, q0, hG0, hq0, hwb0⟩ := hM.get (i := 0) (us := b0) rfl
        obtain ⟨qs1, q1, hG1, hq1, hwb1⟩ := hM.get (i := 1) (us := b1) rfl
        have oks1 : WOk s1' := ok.part (m := ("sells" : Str)) (by rw [hcs]; simp)
        have okb0 : WOk b0 := ok0.part (m := ("buys" : Str)) (by rw [show (([s0, s1'] : List (List Str)).headD []) = s0 from rfl, hcb']; simp)
        have okb1 : WOk b1 := ok0.part (m := ("buys" : Str)) (by rw [show (([s0, s1'] : List (List Str)).headD []) = s0 from rfl, hcb']; simp)
        refine iteF ⟨_, rfl, F, _, 1, _, rfl, rfl, SqL.of hF1, atI_nat (j := 1) hp1, p1, _, rfl, .inl (SqL.of hw1), rfl, flat_strs s1', _, rfl, ?_⟩
        rw [in_strs']
        by_cases l3 : ("buys" : Str) ∈ s1'
        · rw [decide_eq_true l3]
          exact iteT (no (n2 (.inr (.inr l3))) _ (Same.refl _))
        · rw [decide_eq_false l3]
          have hp3 := n1 s0 s1' b0 b1 hcs hcb' l3
          refine iteF ⟨_, rfl, rfl, _, rfl, ?_⟩
          rw [strD]
          by_cases ck : kd = "caps"
          · rw [decide_eq_true ck]
            have hw : wishD kd ws = capsD b0 b1 s1' := by
              unfold wishD
              rw [hp3]
              exact if_pos ck
            rw [hw] at k
            refine iteT ?_
            refine ⟨_, rfl, G, _, 1, _, rfl, rfl, SqL.of hG1, atI_nat (j := 1) hq1, q1, b1, rfl, hwb1, okb1, fun v1 H3 s3 ht1 => ?_⟩
            refine ⟨_, rfl, F, _, 1, _, rfl, rfl, SqL.of (s3 _ _ hF1), atI_nat (j := 1) hp1, p1, s1', rfl, hw1.same s3, oks1, fun v2 H4 s4 ht2 => ?_⟩
            unfold sideW at ht1 ht2
            have ht1 := ht1.same s4
            have sB := sA.trans (s3.trans s4)
            have s34 := s3.trans s4
            have e1 := ht1.isN
            have e2 := ht2.isN
            refine ⟨_, rfl, G, _, 0, _, rfl, rfl, SqL.of (s34 _ _ hG0), atI_nat (j := 0) hq0, q0, _, rfl, .inl (SqL.of (hwb0.same s34)), _, _, rfl, rfl, _, rfl, ?_⟩
            rw [List.length_map]
            unfold capsD at k
            by_cases cb : b0 ≠ []
            · rw [if_pos cb] at k
              rw [decide_eq_true (show (0 : Int) < ((b0.length : Nat) : Int) by have := List.length_pos_iff.mpr cb; omega)]
              exact iteT (iteT (k _ _ sB .non))
            · rw [if_neg cb] at k
              have cb : b0 = [] := Classical.not_not.mp cb
              rw [decide_eq_false (show ¬ (0 : Int) < ((b0.length : Nat) : Int) by rw [cb]; decide)]
              refine iteF ⟨_, rfl, rfl, _, rfl, ?_⟩
              rw [e1]
              unfold capsM at k
              cases h1 : side b1 with
              | none =>
                rw [h1] at k
                exact iteT (iteT (k _ _ sB .non))
              | some x =>
                refine iteF ⟨_, rfl, rfl, _, rfl, ?_⟩
                rw [e2]
                cases h2 : side s1' with
                | none =>
                  rw [h1, h2] at k
                  exact iteT (k _ _ sB .non)
                | some y =>
                  rw [h1, h2] at k
                  rw [h1] at ht1
                  rw [h2] at ht2
                  obtain ⟨x1, x2⟩ := x
                  obtain ⟨y1, y2⟩ := y
                  cases ht1 with
                  | tup hA tA =>
                    rename_i pa la
                    cases ht2 with
                    | tup hB tB =>
                      rename_i pb lb
                      cases tA with
                      | cons tA1 tA' =>
                        cases tA' with
                        | cons tA2 tA'' =>
                          cases tA''
                          cases tB with
                          | cons tB1 tB' =>
                            cases tB' with
                            | cons tB2 tB'' =>
                              cases tB''
                              refine iteF ⟨by show 1 ≤ sizeLine; decide, fun t1 h1' => ?_⟩
                              have z1 := same_new (o := .tup [V.str "caps"]) h1'
                              refine ⟨_, rfl, catT upd_same (z1 _ _ hA) (by simp) (by simp) fun t2 H7 z2 ht2' => ⟨_, rfl, catT ht2' (z2 _ _ (z1 _ _ hB)) (by simp) (by simp) fun t3 H8 z3 ht3' => ?_⟩⟩
                              have zz := z1.trans (z2.trans z3)
                              exact k _ _ (sB.trans zz) (.tup ht3' (.cons (.str _) (.cons (tA1.same zz) (.cons (tA2.same zz) (.cons (tB1.same zz) (.cons (tB2.same zz) .nil))))))
          · rw [decide_eq_false ck]
            have hk3 := hk.resolve_left ck
            rw [wish_some hp3 ck] at k
            refine iteF ?_
            refine ⟨_, rfl, G, _, 0, _, rfl, rfl, SqL.of hG0, atI_nat (j := 0) hq0, q0, b0, rfl, hwb0, okb0, fun v1 H3 s3 ht1 => ?_⟩
            refine ⟨_, rfl, G, _, 1, _, rfl, rfl, SqL.of (s3 _ _ hG1), atI_nat (j := 1) hq1, q1, b1, rfl, hwb1.same s3, okb1, fun v2 H4 s4 ht2 => ?_⟩
            refine ⟨_, rfl, F, _, 1, _, rfl, rfl, SqL.of (s4 _ _ (s3 _ _ hF1)), atI_nat (j := 1) hp1, p1, s1', rfl, hw1.same (s3.trans s4), oks1, fun v3 H5 s5 ht3 => ?_⟩
            refine ⟨by show 3 ≤ sizeLine; decide, fun L hL' => ?_⟩
            have s6 := same_new (o := .lst [v1, v2, v3]) hL'
            have sB := sA.trans (s3.trans (s4.trans (s5.trans s6)))
            have ht1 := ht1.same (s4.trans (s5.trans s6))
            have ht2 := ht2.same (s5.trans s6)
            have ht3 := ht3.same s6
            have hLL : (upd H5 L (.lst [v1, v2, v3])) L = some (.lst [v1, v2, v3]) := upd_same
            generalize upd H5 L (.lst [v1, v2, v3]) = H6 at s6 sB ht1 ht2 ht3 hLL ⊢
            unfold plainD at k
            have len1 : ∀ ns, nums b0 = some ns → ns.length ≤ 30000 := fun ns h => by
              have := (nums_some h).2.2
              have := okb0.few
              omega
            generalize hn1 : nums b0 = o1 at k ht1 len1
            generalize hn2 : nums b1 = o2 at k ht2
            generalize hn3 : nums s1' = o3 at k ht3
            have hacc : TpA H6 [v1, v2, v3] [numsD o1, numsD o2, numsD o3] := .cons ht1 (.cons ht2 (.cons ht3 .nil))
            refine ⟨_, rfl, .none, _, .non, .lst (SqL.of hLL) (TpA.dp _ _ hacc), by decide +kernel, Shp.list fun d hd => ?_, _, rfl, ?_⟩
            · simp only [List.mem_cons, List.not_mem_nil, or_false] at hd
              rcases hd with e | e | e <;> subst e <;> exact Shp.numsD _
            · have ea : (([numsD o1, numsD o2, numsD o3] : List PyData).any fun z => PyData.eqv z .none) = (o1.isNone || (o2.isNone || o3.isNone)) := by
                simp only [List.any_cons, List.any_nil, eqv_none, isN_nums, Bool.or_false]
              rw [ea]
              cases o1 with
              | none => exact iteT (iteT (k _ _ sB .non))
              | some r =>
                cases o2 with
                | none => exact iteT (iteT (k _ _ sB .non))
                | some p =>
                  cases o3 with
                  | none => exact iteT (iteT (k _ _ sB .non))
                  | some q =>
                    have k : ∀ (v : V) (H' : Hp), Same H H' → Tp H' v (rowsD kd r p q) → Q v H' := k
                    have len1 := len1 r rfl
                    obtain ⟨a1, rfl, h1⟩ := ht1.tupI
                    obtain ⟨a2, rfl, h2⟩ := ht2.tupI
                    obtain ⟨a3, rfl, h3⟩ := ht3.tupI
                    obtain ⟨i1, i2, i3⟩ := idx_at hk3
                    refine iteF ⟨_, rfl, L, _, 0, _, rfl, rfl, SqL.of hLL, atI_nat (j := 0) rfl, a1, _, rfl, .inr (SqT.of h1), by show 3 ≤ sizeLine; decide, fun l1 hl1 => ⟨by show 3 ≤ sizeLine; decide, fun l2 hl2 => ?_⟩⟩
                    have y1 := same_new (o := .lst [V.int 1, V.int 1, V.int 2]) hl1
                    have y2 := same_new (o := .lst [V.str "maker", V.str "sides", V.str "trader"]) hl2
                    refine ⟨.inl ⟨rfl, _, SqL.of upd_same⟩, _, rfl, l2, (["maker", "sides", "trader"] : List Str).map V.str, _, _, _, rfl, rfl, SqL.of upd_same, rfl, rfl, i1, i2, i3, l1, _, _, _, rfl, rfl, SqL.of (y2 _ _ upd_same), atI_nat (kind_ix hk3), rfl, _, rfl, ?_⟩
                    have yy := y1.trans y2
                    have sC := sB.trans yy
                    have h1 := yy _ _ h1
                    have h2 := yy _ _ h2
                    have h3 := yy _ _ h3
                    have hLL := yy _ _ hLL
                    generalize upd (upd H6 l1 (.lst [V.int 1, V.int 1, V.int 2])) l2 (.lst [V.str "maker", V.str "sides", V.str "trader"]) = H7 at sC h1 h2 h3 hLL ⊢
                    rw [ints_len, intEq]
                    have en : decide (((r.length : Nat) : Int) = if kd = ("trader" : Str) then 2 else 1) = decide (r.length = if kd = ("trader" : Str) then 2 else 1) := by
                      refine decide_eq_decide.mpr ?_
                      split <;> omega
                    rw [en]
                    unfold rowsD at k
                    by_cases cl : r.length = if kd = ("trader" : Str) then 2 else 1
                    · rw [if_neg (fun z => z cl)] at k
                      rw [decide_eq_true cl]
                      have hr0 : r ≠ [] := fun z => by
                        rw [z] at cl
                        split at cl <;> cases cl
                      refine iteF ⟨_, rfl, rfl, _, rfl, ?_⟩
                      rw [strD]
                      by_cases cs : kd = "sides"
                      · rw [if_pos cs] at k
                        rw [decide_eq_true cs]
                        refine iteT ⟨_, rfl, L, _, 1, _, rfl, rfl, SqL.of hLL, atI_nat (j := 1) rfl, a2, _, rfl, .inr (SqT.of h2), rfl, _, rfl, ?_⟩
                        rw [ints_len, intEq]
                        by_cases cp : p = []
                        · rw [if_pos cp] at k
                          rw [decide_eq_true (show ((p.length : Nat) : Int) = 0 by rw [cp]; rfl)]
                          exact iteT (k _ _ sC .non)
                        · rw [if_neg cp] at k
                          have hpl : 0 < p.length := List.length_pos_iff.mpr cp
                          rw [decide_eq_false (show ¬ ((p.length : Nat) : Int) = 0 by omega)]
                          refine iteF ⟨_, rfl, _, rfl, L, _, 0, _, rfl, rfl, SqL.of hLL, atI_nat (j := 0) rfl, a1, _, 0, _, rfl, rfl, SqT.of h1, head_at hr0, _, rfl, L, _, 1, _, rfl, rfl, SqL.of hLL, atI_nat (j := 1) rfl, 1, rfl, -1, rfl, slT1 h2 (cut_but1 V.int p) (by rw [List.length_dropLast]; omega) fun t1 H8 s8 ht8 => ?_⟩
                          refine ⟨_, rfl, L, _, 1, _, rfl, rfl, SqL.of (s8 _ _ hLL), atI_nat (j := 1) rfl, 1, rfl, a2, _, -1, _, rfl, rfl, SqT.of (s8 _ _ h2), last_at cp, _, rfl, L, _, 2, _, rfl, rfl, SqL.of (s8 _ _ hLL), atI_nat (j := 2) rfl, by show 5 ≤ sizeLine; decide, fun t2 ht2' => k _ _ (sC.trans (s8.trans (same_new ht2'))) ?_⟩
                          have s9 := same_new (o := .tup [V.str kd, V.int (r.headD 0), V.ref t1, V.int (p.getLastD 0), V.ref a3]) ht2'
                          exact .tup upd_same (.cons (.str _) (.cons (.int _) (.cons (Tp.ofI (s9 _ _ ht8)) (.cons (.int _) (.cons (Tp.ofI (s9 _ _ (s8 _ _ h3))) .nil)))))
                      · rw [if_neg cs] at k
                        rw [decide_eq_false cs]
                        refine iteF ⟨_, rfl, by show 1 ≤ sizeLine; decide, fun t1 ht1' => ?_⟩
                        have z1 := same_new (o := .tup [V.str kd]) ht1'
                        refine ⟨_, rfl, L, _, 0, _, rfl, rfl, SqL.of (z1 _ _ hLL), atI_nat (j := 0) rfl, catT upd_same (z1 _ _ h1) (by simp) (by rw [ints_len]; simp; split at cl <;> omega) fun t2 H8 z2 ht2' => ?_⟩
                        refine ⟨_, rfl, L, _, 1, _, rfl, rfl, SqL.of (z2 _ _ (z1 _ _ hLL)), atI_nat (j := 1) rfl, _, rfl, L, _, 2, _, rfl, rfl, SqL.of (z2 _ _ (z1 _ _ hLL)), atI_nat (j := 2) rfl, by show 2 ≤ sizeLine; decide, fun t3 ht3' => ?_⟩
                        have z3 := same_new (o := .tup [V.ref a2, V.ref a3]) ht3'
                        refine catT (z3 _ _ ht2') upd_same (by simp) (by simp; split at cl <;> omega) fun t4 H9 z4 ht4 => ?_
                        have zz := z1.trans (z2.trans (z3.trans z4))
                        refine k _ _ (sC.trans zz) (.tup ht4 (.cons (.str _) ?_))
                        exact (TpA.ints r).append (.cons (Tp.ofI (zz _ _ h2)) (.cons (Tp.ofI (zz _ _ h3)) .nil))
                    · rw [if_pos (fun z => cl z)] at k
                      rw [decide_eq_false cl]
                      exact iteT (k _ _ sC .non)
      · rw [decide_eq_false (show ¬ (((cut ("buys" : Str) ((cut ("sells" : Str) ws).headD [])).length : Nat) : Int) = 2 by omega)]
        exact iteT (iteT (no (n2 (.inr (.inl l2))) _ (Same.refl _)))
    · rw [decide_eq_false (show ¬ (((cut ("sells" : Str) ws).length : Nat) : Int) = 2 by omega)]
      exact iteT (iteT (no (n2 (.inl l1)) _ (Same.refl _)))
end
end K99

/-! K99L3 -/
set_option Elab.async false
set_option linter.all false
set_option maxRecDepth 100000
set_option maxHeartbeats 1000000
namespace K99
open PySem L2 TL
open PyProof.Rows (envOfC)
theorem iteFb {c : Bool} {A B : Prop} (h : c = false) (g : B) : if c = true then A else B := by
  rw [h]
  exact iteF g
/-- a promise that nobody may claim -/
def spNo : Sp := fun _ _ _ _ => False
theorem Src.no {P : Program} {w : World} {K : PySem.W.Frag} {mg : Str → Option Value} {base : Heap} {x : Str} {st : Stmt} {ps : List Str} {k : Nat} (S : Src K mg x st ps) : Has P w K mg base x ps k spNo := by
  obtain ⟨f, fd, h1, F, h2⟩ := S.ex
  exact ⟨f, fd, h1, F.kp, h2, fun _ _ _ _ h => h.elim, fun _ _ _ _ _ _ _ _ _ _ _ _ _ h => h.elim⟩
/-- the rest of a list of rows -/
theorem LL.rest {K : PySem.W.Frag} {H : Hp} {F : Addr} {parts : List (List Str)} {Q : VK} {σ : L2.St} (h : LL H F parts) (k : ∀ (p : Addr) (H' : Hp), Same H H' → LL H' p parts.tail → Q (.ref p) H') : tNoPart σ H (fun u H3 => rSlL K (.ref F) (some 1) u H3 Q) := by
  obtain ⟨ps, hF, hP⟩ := h
  refine ⟨F, _, rfl, SqL.of hF, fun p hp => ?_⟩
  rw [show cutV (ps.map V.ref) (some 1) none = (ps.drop 1).map V.ref from cut_fromE V.ref ps (i := 1) (n := 1) rfl]
  refine k p _ (same_new hp) ⟨_, upd_same, pair_mono (pair_tail hP) fun q _ o e => ?_⟩
  rw [upd_ne (ne_of_none e hp)]
  exact e
theorem table_alt (ws : List Str) : tableD ws = if (cut ("row" : Str) ws).headD [] ≠ [] ∨ (cut ("row" : Str) ws).tail.any (fun p => (nums p).isNone) = true ∨ (cut ("row" : Str) ws).tail.any (·.isEmpty) = true then .none else
    .tuple [.str "table", .tuple ((cut ("row" : Str) ws).tail.map fun p => numsD (nums p))] := by
  unfold tableD
  by_cases h : (cut ("row" : Str) ws).headD [] ≠ []
  · rw [if_pos h, if_pos (.inl h)]
  · rw [if_neg h]
    generalize (cut ("row" : Str) ws).tail = parts
    by_cases c : parts.all (fun p => (nums p).isSome && !p.isEmpty) = true
    · rw [if_pos c]
      have ca := List.all_eq_true.mp c
      rw [if_neg]
      · congr 3
        congr 1
        refine List.map_congr_left fun p hp => ?_
        have h1 := ca p hp
        rw [Bool.and_eq_true] at h1
        cases h2 : nums p with
        | none =>
          rw [h2] at h1
          cases h1.1
        | some ns =>
          rw [(nums_some h2).2.1]
          rfl
      · rintro (z | z | z)
        · exact h z
        · obtain ⟨p, hp, hn⟩ := List.any_eq_true.mp z
          have h1 := ca p hp
          rw [Bool.and_eq_true] at h1
          cases h2 : nums p with
          | none =>
            rw [h2] at h1
            cases h1.1
          | some ns =>
            rw [h2] at hn
            cases hn
        · obtain ⟨p, hp, hn⟩ := List.any_eq_true.mp z
          have h1 := ca p hp
          rw [hn] at h1
          simp at h1
    · rw [if_neg c, if_pos]
      obtain ⟨p, hp, hn⟩ := List.all_eq_false.mp (Bool.eq_false_iff.mpr c)
      right
      cases h2 : nums p with
      | none => exact .inl (List.any_eq_true.mpr ⟨p, hp, by rw [h2]; rfl⟩)
      | some ns =>
        right
        refine List.any_eq_true.mpr ⟨p, hp, ?_⟩
        rw [h2] at hn
        simpa using hn
theorem part_alt (ws : List Str) : partD ws = if ws.take 1 = [("table" : Str)] then tableD (ws.drop 1) else if 0 < ws.length ∧ ws.headD "" ∈ (["maker", "sides", "trader", "caps"] : List Str) then wishD (ws.headD "") (ws.drop 1) else .none := by
  cases ws with
  | nil => rfl
  | cons x r =>
    show (if x = ("table" : Str) then tableD r else if x = ("maker" : Str) ∨ x = ("sides" : Str) ∨ x = ("trader" : Str) ∨ x = ("caps" : Str) then wishD x r else .none) = _
    have e1 : ((x :: r).take 1 = [("table" : Str)]) ↔ x = ("table" : Str) := by simp
    have e2 : (0 < (x :: r).length ∧ (x :: r).headD "" ∈ (["maker", "sides", "trader", "caps"] : List Str)) ↔ (x = ("maker" : Str) ∨ x = ("sides" : Str) ∨ x = ("trader" : Str) ∨ x = ("caps" : Str)) := by simp
    by_cases h1 : x = ("table" : Str)
    · rw [if_pos h1, if_pos (e1.mpr h1)]
      rfl
    · rw [if_neg h1, if_neg (fun z => h1 (e1.mp z))]
      by_cases h2 : x = ("maker" : Str) ∨ x = ("sides" : Str) ∨ x = ("trader" : Str) ∨ x = ("caps" : Str)
      · rw [if_pos h2, if_pos (e2.mpr h2)]
        rfl
      · rw [if_neg h2, if_neg (fun z => h2 (e2.mp z))]
theorem eqv_tup0 (o : Option (List Int)) : PyData.eqv (numsD o) (.tuple []) = (match o with | some ns => ns.isEmpty | none => false) := by
  cases o with
  | none => simp [numsD, PyData.eqv]
  | some ns => cases ns <;> simp [numsD, tupI, PyData.eqv, PyData.eqvAll]
theorem deed_ix {k : Str} (h : k ∈ (["offer", "cancel", "undo", "redo"] : List Str)) : ∃ m : Nat, needs k = some m ∧ m ≤ 3 ∧ ([V.int 3, V.int 1, V.int 0, V.int 0] : List V)[(["offer", "cancel", "undo", "redo"] : List Str).idxOf k]? = some (.int (m : Int)) := by
  simp only [List.mem_cons, List.not_mem_nil, or_false] at h
  rcases h with e | e | e | e <;> subst e
  · exact ⟨3, by decide +kernel, by decide, by decide +kernel⟩
  · exact ⟨1, by decide +kernel, by decide, by decide +kernel⟩
  · exact ⟨0, by decide +kernel, by decide, by decide +kernel⟩
  · exact ⟨0, by decide +kernel, by decide, by decide +kernel⟩
theorem deed_no {k : Str} (h : k ∉ (["offer", "cancel", "undo", "redo"] : List Str)) : needs k = none := by
  simp only [List.mem_cons, List.not_mem_nil, or_false, not_or] at h
  unfold needs
  rw [if_neg h.1, if_neg h.2.1, if_neg (fun z => z.elim h.2.2.1 h.2.2.2)]

section
variable {P : Program} {w : World} {K : PySem.W.Frag} {mg : Str → Option Value} {base : Heap} {D : Addr}
abbrev sLawReadChoice : Stmt := top 44
theorem scLawReadChoice : FnScope ["_law_words_here", "_law_whole", "_law_cut_here", "_law_parts", "_law_rows", "_law_row"] ["_law_words_here", "_law_whole"] (defScope sLawReadChoice) := ⟨rfl, rfl, rfl, by decide +kernel, rfl, by decide +kernel, by decide +kernel⟩
def spLC (wh : Bool) : Sp := fun vs H Q _ => ∃ (a : Addr) (ws : List Str), vs = [.ref a, .bl wh] ∧ Wl H a ws ∧ WOk ws ∧ ∀ (v : V) (H' : Hp), Same H H' → Tp H' v (if wh = true then choiceD ws else partD ws) → Q v H'
theorem lc_step (T : Txt K w mg D) {wh : Bool} {spR : Sp} {k0 : Nat} (hk0 : 5 ≤ k0) (hR : wh = true → spR = spLC false) (h__law_read_choice : Has P w K mg base "_law_read_choice" ["_law_words_here", "_law_whole"] k0 spR) :
    Has P w K mg base "_law_read_choice" ["_law_words_here", "_law_whole"] (k0 + 1) (spLC wh) := by
  have h__law_cut : Has P w K mg base "_law_cut" ["_law_words_here", "_law_mark"] 1 spCut := has__law_cut T
  have h__law_integers : Has P w K mg base "_law_integers" ["_law_words_here"] 2 spNums := has__law_integers T
  have h__law_read_wishes : Has P w K mg base "_law_read_wishes" ["_law_kind", "_law_words_here"] 4 spWishL := has__law_read_wishes T
  refine T.d__law_read_choice.has scLawReadChoice (fun vs H Q E h => ?_) (fun f cdv A outer s H vs Q E hr h => ?_)
  · obtain ⟨a, ws, rfl, _⟩ := h
    rfl
  · obtain ⟨a, ws, rfl, ha, ok, k⟩ := h
    refine ⟨_, (pss_cons (ps_if (PW.pt (pw_and (pt_cmpR (op_eqD (hu64 hr)) (pe_slice sl_list (pv 0) po_none (po_some pe_int)) (pe_lst (pa_cons pe_str pa_nil)) (nomark _)) (pw_and1 (pt_val (pv 1))))) (pss_cons (ps_set (i := 2) scLawReadChoice.nd rfl (by first | exact Or.inl rfl | exact Or.inr rfl) (pe_has h__law_cut (hr.mono (by omega)) (pa_cons (pe_slice sl_list (pv 0) (po_some pe_int) po_none) (pa_cons pe_str pa_nil))))
      (pss_cons (ps_setLc (i := 3) (own := [("_law_row", 5)]) rfl scLawReadChoice.nd rfl rfl (sw_true rfl rfl rfl (by decide +kernel)) (pi_list (pe_slice sl_list (pv 2) (po_some pe_int) po_none)) (blkOk_by (own := [("_law_row", 5)]) (N := ["_law_words_here", "_law_whole", "_law_cut_here", "_law_parts", "_law_rows", "_law_row"]) (sc := defScope sLawReadChoice) (by decide +kernel)) (fun _ _ _ _ _ => pg_name (i := 5) scLawReadChoice.nd rfl (Or.inl rfl)) (fun _ _ _ _ _ => pts_nil) (fun _ _ _ _ _ => (pe_has h__law_read_choice (hr.mono (by omega)) (pa_cons (pv 5) (pa_cons pe_bl pa_nil)))))
      (pss_cons (ps_if (PW.pt (pw_or (pt_cmpR op_gt (pe_callB call_len_seq (by rfl) T.len PySem.boot_len (pa_cons (pe_ix ix_list (pv 2) pe_int (fun _ _ => rfl)) pa_nil)) pe_int (nomark _)) (pw_or1 (pt_cmpR (op_inD (hu65 hr)) pe_non (pv 3) (by rfl))))) (pss_one (ps_ret pe_non))
      pss_nil)
      (pss_one (ps_ret (pe_tup (pa_cons pe_str (pa_cons (pe_callTy call_tuple_of (by rfl) T.tuple (by decide +kernel) (pa_cons (pv 3) pa_nil)) pa_nil))))))))
      pss_nil)
      (pss_cons (ps_if (pt_cmpR (op_eqD (hu64 hr)) (pe_slice sl_list (pv 0) po_none (po_some pe_int)) (pe_lst (pa_cons pe_str pa_nil)) (nomark _)) (pss_cons (ps_set (i := 2) scLawReadChoice.nd rfl (by first | exact Or.inl rfl | exact Or.inr rfl) (pe_has h__law_cut (hr.mono (by omega)) (pa_cons (pe_slice sl_list (pv 0) (po_some pe_int) po_none) (pa_cons pe_str pa_nil))))
      (pss_cons (ps_setLc (i := 4) (own := [("_law_row", 5)]) rfl scLawReadChoice.nd rfl rfl (sw_true rfl rfl rfl (by decide +kernel)) (pi_list (pe_slice sl_list (pv 2) (po_some pe_int) po_none)) (blkOk_by (own := [("_law_row", 5)]) (N := ["_law_words_here", "_law_whole", "_law_cut_here", "_law_parts", "_law_rows", "_law_row"]) (sc := defScope sLawReadChoice) (by decide +kernel)) (fun _ _ _ _ _ => pg_name (i := 5) scLawReadChoice.nd rfl (Or.inl rfl)) (fun _ _ _ _ _ => pts_nil) (fun _ _ _ _ _ => (pe_has h__law_integers (hr.mono (by omega)) (pa_cons (pv 5) pa_nil))))
      (pss_cons (ps_if (PW.pt (pw_or (pt_cmpR op_gt (pe_callB call_len_seq (by rfl) T.len PySem.boot_len (pa_cons (pe_ix ix_list (pv 2) pe_int (fun _ _ => rfl)) pa_nil)) pe_int (nomark _)) (pw_or (pt_cmpR (op_inD (hu65 hr)) pe_non (pv 4) (by rfl)) (pw_or1 (pt_cmpR (op_inD (hu65 hr)) (pe_tup pa_nil) (pv 4) (by rfl)))))) (pss_one (ps_ret pe_non))
      pss_nil)
      (pss_one (ps_ret (pe_tup (pa_cons pe_str (pa_cons (pe_callTy call_tuple_of (by rfl) T.tuple (by decide +kernel) (pa_cons (pv 4) pa_nil)) pa_nil))))))))
      pss_nil)
      (pss_cons (ps_if (PW.pt (pw_and (pt_cmpR op_gt (pe_callB call_len_seq (by rfl) T.len PySem.boot_len (pa_cons (pv 0) pa_nil)) pe_int (nomark _)) (pw_and1 (pt_cmpR op_in_seq (pe_ix ix_list (pv 0) pe_int (fun _ _ => rfl)) (pe_lst (pa_cons pe_str (pa_cons pe_str (pa_cons pe_str (pa_cons pe_str pa_nil))))) (by rfl))))) (pss_one (ps_ret (pe_has h__law_read_wishes (hr.mono (by omega)) (pa_cons (pe_ix ix_list (pv 0) pe_int (fun _ _ => rfl)) (pa_cons (pe_slice sl_list (pv 0) (po_some pe_int) po_none) pa_nil)))))
      pss_nil)
      (pss_one (ps_ret pe_non))))), ?_⟩
    refine ⟨_, rfl, 1, rfl, slW ha (cut_toE V.str ws (i := 1) (n := 1) rfl) fun q1 H1 s1 hq1 => ⟨by show 1 ≤ sizeLine; decide, fun q2 hq2 => ?_⟩⟩
    have s2 := s1.trans (same_new (o := .lst [V.str "split"]) hq2)
    refine ⟨_, _, Wl.dp (hq1.same (same_new hq2)), Wl.dp (ws := ["split"]) upd_same, shaped_ws (ok.take 1), by decide +kernel, _, rfl, ?_⟩
    rw [eqv_ws]
    have ha2 := ha.same s2
    generalize upd H1 q2 (.lst [V.str "split"]) = H2 at s2 ha2 ⊢
    have sl : cutV (ws.map V.str) (some 1) none = (ws.drop 1).map V.str := cut_fromE V.str ws (i := 1) (n := 1) rfl
    have ok1 := ok.drop 1
    by_cases c0 : ws.take 1 = [("split" : Str)] ∧ wh = true
    · obtain ⟨c1, c2⟩ := c0
      subst c2
      rw [if_pos rfl] at k
      unfold choiceD at k
      rw [if_pos c1] at k
      have hR := hR rfl
      subst hR
      rw [decide_eq_true c1]
      refine iteT ⟨_, rfl, true, rfl, iteT ?_⟩
      refine ⟨_, rfl, 1, rfl, slWn ha2 sl fun q3 H3 s3 hq3 => ⟨q3, _, _, rfl, hq3, ok1, fun F H4 s4 hL => ?_⟩⟩
      have sB := s2.trans (s3.trans s4)
      have okp : ∀ p ∈ (cut ("part" : Str) (ws.drop 1)).tail, WOk p := fun p hp => ok1.part (List.mem_of_mem_tail hp)
      have few : (cut ("part" : Str) (ws.drop 1)).tail.length ≤ 30000 := by
        rw [List.length_tail, cut_length]
        have := List.count_le_length (a := ("part" : Str)) (l := ws.drop 1)
        have := ok1.few
        omega
      obtain ⟨ps0, p0, hF0, hp0, hw0⟩ := hL.get (cut0 ("part" : Str) (ws.drop 1))
      unfold splitD at k
      refine ⟨_, rfl, 1, rfl, hL.rest fun F2 H5 s5 hL2 => ?_⟩
      generalize hps : (cut ("part" : Str) (ws.drop 1)).tail = parts at k hL2 okp few
      generalize hhd : (cut ("part" : Str) (ws.drop 1)).headD [] = h0 at k hw0
      obtain ⟨ps, hF, hP⟩ := hL2
      have hpl := pair_len hP
      refine ⟨F2, rfl, ⟨_, SqL.of hF⟩, fun D1 hD1 => lc_mapI (K := K) (parts.map partD) (SqL.of hF) hD1 ?_ ?_ ?_ ?_⟩
      · rw [List.length_map]
        exact big (by omega)
      · rw [List.length_map, List.length_map]
        exact hpl.symm
      · intro i x d H6 Q6 hi hdi s6 k6
        obtain ⟨p, rfl, e1⟩ := ref_at hi
        obtain ⟨us, e2, hu⟩ := pair_get hP e1
        rw [List.getElem?_map, e2] at hdi
        cases hdi
        exact ⟨_, rfl, p, us, rfl, hu.same s6, okp us (List.mem_of_getElem? e2), fun v H7 s7 ht => k6 v H7 s7 ht⟩
      · intro H6 acc s6 hacc ht
        have s56 := s5.trans s6
        have sC := sB.trans s56
        refine ⟨_, rfl, F, _, 0, _, rfl, rfl, SqL.of (s56 _ _ hF0), atI_nat (j := 0) hp0, p0, _, rfl, .inl (SqL.of (hw0.same s56)), _, _, rfl, rfl, _, rfl, ?_⟩
        rw [List.length_map]
        by_cases ch : h0 ≠ []
        · rw [if_pos ch] at k
          rw [decide_eq_true (show (0 : Int) < ((h0.length : Nat) : Int) by have := List.length_pos_iff.mpr ch; omega)]
          exact iteT (iteT (k _ _ sC .non))
        · rw [if_neg ch] at k
          rw [decide_eq_false (show ¬ (0 : Int) < ((h0.length : Nat) : Int) by rw [Classical.not_not.mp ch]; decide)]
          refine iteF ⟨_, rfl, .none, _, .non, .lst (SqL.of hacc) (TpA.dp _ _ ht), by decide +kernel, Shp.list fun d hd => ?_, _, rfl, ?_⟩
          · obtain ⟨p, hp, rfl⟩ := List.mem_map.mp hd
            exact (Sh.part p).shp (by decide)
          · have ea : ((parts.map partD).any fun z => PyData.eqv z .none) = !parts.all (fun p => !isN (partD p)) := by
              rw [List.any_map, List.not_all_eq_any_not]
              congr 1
              funext p
              show PyData.eqv (partD p) .none = !!isN (partD p)
              rw [eqv_none, Bool.not_not]
            rw [ea]
            by_cases c2 : parts.all (fun p => !isN (partD p)) = true
            · rw [c2]
              rw [if_pos c2] at k
              refine iteF ⟨_, rfl, D1, _, rfl, .inl ⟨SqL.of hacc, fun l hl => ⟨by show 2 ≤ sizeLine; decide, fun t ht' => k _ _ (sC.trans ((same_new hl).trans (same_new ht'))) ?_⟩⟩⟩
              have sN := (same_new (o := .tup acc) hl).trans (same_new (o := .tup [V.str "split", V.ref l]) ht')
              exact .tup upd_same (.cons (.str _) (.cons (.tup (by rw [upd_ne (ptr_ne ht')]; exact upd_same) (ht.same sN)) .nil))
            · rw [Bool.eq_false_iff.mpr c2]
              rw [if_neg c2] at k
              exact iteT (k _ _ sC .non)
    · have hp : (if wh = true then choiceD ws else partD ws) = partD ws := by
        cases wh with
        | false => rfl
        | true =>
          rw [if_pos rfl]
          unfold choiceD
          rw [if_neg fun z => c0 ⟨z, rfl⟩]
      rw [hp, part_alt] at k
      apply ite_imp
      · intro c g
        refine ⟨_, rfl, wh, rfl, ?_⟩
        have hw : wh = false := by
          cases wh with
          | false => rfl
          | true => exact absurd ⟨of_decide_eq_true c, rfl⟩ c0
        exact iteFb hw g
      · intro c g
        exact iteF g
      refine ⟨_, rfl, 1, rfl, slW ha2 (cut_toE V.str ws (i := 1) (n := 1) rfl) fun q3 H3 s3 hq3 => ⟨by show 1 ≤ sizeLine; decide, fun q4 hq4 => ?_⟩⟩
      have s4 := s3.trans (same_new (o := .lst [V.str "table"]) hq4)
      refine ⟨_, _, Wl.dp (hq3.same (same_new hq4)), Wl.dp (ws := ["table"]) upd_same, shaped_ws (ok.take 1), by decide +kernel, _, rfl, ?_⟩
      rw [eqv_ws]
      have ha4 := ha2.same s4
      have sB := s2.trans s4
      generalize upd H3 q4 (.lst [V.str "table"]) = H4 at s4 ha4 sB ⊢
      by_cases c1 : ws.take 1 = [("table" : Str)]
      · rw [if_pos c1, table_alt] at k
        rw [decide_eq_true c1]
        refine iteT ?_
        refine ⟨_, rfl, 1, rfl, slWn ha4 sl fun q5 H5 s5 hq5 => ⟨q5, _, _, rfl, hq5, ok1, fun F H6 s6 hL => ?_⟩⟩
        have sC := sB.trans (s5.trans s6)
        have okp : ∀ p ∈ (cut ("row" : Str) (ws.drop 1)).tail, WOk p := fun p hp => ok1.part (List.mem_of_mem_tail hp)
        have few : (cut ("row" : Str) (ws.drop 1)).tail.length ≤ 30000 := by
          rw [List.length_tail, cut_length]
          have := List.count_le_length (a := ("row" : Str)) (l := ws.drop 1)
          have := ok1.few
          omega
        obtain ⟨ps0, p0, hF0, hp0, hw0⟩ := hL.get (cut0 ("row" : Str) (ws.drop 1))
        refine ⟨_, rfl, 1, rfl, hL.rest fun F2 H7 s7 hL2 => ?_⟩
        generalize hps : (cut ("row" : Str) (ws.drop 1)).tail = parts at k hL2 okp few
        generalize hhd : (cut ("row" : Str) (ws.drop 1)).headD [] = h0 at k hw0
        obtain ⟨ps, hF, hP⟩ := hL2
        have hpl := pair_len hP
        refine ⟨F2, rfl, ⟨_, SqL.of hF⟩, fun D1 hD1 => lc_mapI (K := K) (parts.map fun p => numsD (nums p)) (SqL.of hF) hD1 ?_ ?_ ?_ ?_⟩
        · rw [List.length_map]
          exact big (by omega)
        · rw [List.length_map, List.length_map]
          exact hpl.symm
        · intro i x d H8 Q8 hi hdi s8 k8
          obtain ⟨p, rfl, e1⟩ := ref_at hi
          obtain ⟨us, e2, hu⟩ := pair_get hP e1
          rw [List.getElem?_map, e2] at hdi
          cases hdi
          exact ⟨_, rfl, p, us, rfl, hu.same s8, okp us (List.mem_of_getElem? e2), fun v H9 s9 ht => k8 v H9 s9 ht⟩
        · intro H8 acc s8 hacc ht
          have s78 := s7.trans s8
          have sD := sC.trans s78
          have shp : SeqAt.shaped (.list (parts.map fun p => numsD (nums p))) = true := Shp.list fun d hd => by
            obtain ⟨p, hp, rfl⟩ := List.mem_map.mp hd
            exact Shp.numsD _
          refine ⟨_, rfl, F, _, 0, _, rfl, rfl, SqL.of (s78 _ _ hF0), atI_nat (j := 0) hp0, p0, _, rfl, .inl (SqL.of (hw0.same s78)), _, _, rfl, rfl, _, rfl, ?_⟩
          rw [List.length_map]
          by_cases ch : h0 ≠ []
          · rw [if_pos (.inl ch)] at k
            rw [decide_eq_true (show (0 : Int) < ((h0.length : Nat) : Int) by have := List.length_pos_iff.mpr ch; omega)]
            exact iteT (iteT (k _ _ sD .non))
          · rw [decide_eq_false (show ¬ (0 : Int) < ((h0.length : Nat) : Int) by rw [Classical.not_not.mp ch]; decide)]
            refine iteF ⟨_, rfl, .none, _, .non, .lst (SqL.of hacc) (TpA.dp _ _ ht), by decide +kernel, shp, _, rfl, ?_⟩
            have ea : ((parts.map fun p => numsD (nums p)).any fun z => PyData.eqv z .none) = parts.any (fun p => (nums p).isNone) := by
              rw [List.any_map]
              congr 1
              funext p
              show PyData.eqv (numsD (nums p)) .none = _
              rw [eqv_none, isN_nums]
            rw [ea]
            by_cases c2 : parts.any (fun p => (nums p).isNone) = true
            · rw [if_pos (.inr (.inl c2))] at k
              rw [c2]
              exact iteT (iteT (k _ _ sD .non))
            · rw [Bool.eq_false_iff.mpr c2]
              refine iteF ⟨Nat.zero_le _, fun e he => ?_⟩
              have s9 := same_new (o := .tup []) he
              refine ⟨_, rfl, .tuple [], _, .tup (SqT.of upd_same) .nil, .lst (SqL.of (s9 _ _ hacc)) (TpA.dp _ _ (ht.same s9)), by decide +kernel, shp, _, rfl, ?_⟩
              have ee : ((parts.map fun p => numsD (nums p)).any fun z => PyData.eqv z (.tuple [])) = parts.any (·.isEmpty) := by
                rw [List.any_map]
                refine Bool.eq_iff_iff.mpr ?_
                rw [List.any_eq_true, List.any_eq_true]
                have one : ∀ p ∈ parts, PyData.eqv (numsD (nums p)) (.tuple []) = p.isEmpty := fun p hp => by
                  rw [eqv_tup0]
                  cases h2 : nums p with
                  | none => exact absurd (List.any_eq_true.mpr ⟨p, hp, by rw [h2]; rfl⟩) c2
                  | some ns =>
                    have := (nums_some h2).2.2
                    show ns.isEmpty = p.isEmpty
                    cases ns <;> cases p <;> first | rfl | cases this
                exact ⟨fun ⟨p, hp, h⟩ => ⟨p, hp, by rw [← one p hp]; exact h⟩, fun ⟨p, hp, h⟩ => ⟨p, hp, (one p hp).trans h⟩⟩
              rw [ee]
              by_cases c3 : parts.any (·.isEmpty) = true
              · rw [if_pos (.inr (.inr c3))] at k
                rw [c3]
                exact iteT (k _ _ (sD.trans s9) .non)
              · rw [if_neg (fun z => z.elim ch fun z => z.elim c2 c3)] at k
                rw [Bool.eq_false_iff.mpr c3]
                refine iteF ⟨_, rfl, D1, _, rfl, .inl ⟨SqL.of (s9 _ _ hacc), fun l hl => ⟨by show 2 ≤ sizeLine; decide, fun t ht' => k _ _ ((sD.trans s9).trans ((same_new hl).trans (same_new ht'))) ?_⟩⟩⟩
                have sN := (same_new (o := .tup acc) hl).trans (same_new (o := .tup [V.str "table", V.ref l]) ht')
                exact .tup upd_same (.cons (.str _) (.cons (.tup (by rw [upd_ne (ptr_ne ht')]; exact upd_same) (ht.same (s9.trans sN))) .nil))
      · rw [if_neg c1] at k
        rw [decide_eq_false c1]
        refine iteF ?_
        refine ⟨_, rfl, a, _, rfl, .inl (SqL.of ha4), _, _, rfl, rfl, _, rfl, ?_⟩
        rw [List.length_map]
        by_cases c2 : 0 < ws.length
        · rw [decide_eq_true (show (0 : Int) < ((ws.length : Nat) : Int) by omega)]
          have hx : atI (ws.map V.str) 0 = some (.str (ws.headD "")) := by
            cases ws with
            | nil => exact absurd c2 (by decide)
            | cons y r => exact atI_nat (j := 0) rfl
          refine iteT ⟨_, rfl, a, _, 0, _, rfl, rfl, SqL.of ha4, hx, by show 4 ≤ sizeLine; decide, fun l hl => ?_⟩
          have s5 := same_new (o := .lst [V.str "maker", V.str "sides", V.str "trader", V.str "caps"]) hl
          refine ⟨l, (["maker", "sides", "trader", "caps"] : List Str).map V.str, rfl, .inl (SqL.of upd_same), rfl, rfl, _, rfl, ?_⟩
          rw [in_strs']
          by_cases c3 : ws.headD "" ∈ (["maker", "sides", "trader", "caps"] : List Str)
          · rw [if_pos ⟨c2, c3⟩] at k
            rw [decide_eq_true c3]
            have hkd : ws.headD "" = "caps" ∨ ws.headD "" ∈ (["maker", "sides", "trader"] : List Str) := by
              simp only [List.mem_cons, List.not_mem_nil, or_false] at c3 ⊢
              rcases c3 with e | e | e | e
              · exact .inr (.inl e)
              · exact .inr (.inr (.inl e))
              · exact .inr (.inr (.inr e))
              · exact .inl e
            exact iteT ⟨_, rfl, a, _, 0, _, rfl, rfl, SqL.of (ha4.same s5), hx, _, rfl, 1, rfl, slWn (ha4.same s5) sl fun q6 H6 s6 hq6 => ⟨_, q6, _, rfl, hkd, hq6, ok1, fun v H7 s7 ht => k v H7 (sB.trans (s5.trans (s6.trans s7))) ht⟩⟩
          · rw [if_neg (fun z => c3 z.2)] at k
            rw [decide_eq_false c3]
            exact iteF (k _ _ (sB.trans s5) .non)
        · rw [if_neg (fun z => c2 z.1)] at k
          rw [decide_eq_false (show ¬ (0 : Int) < ((ws.length : Nat) : Int) by omega)]
          exact iteF (iteF (k _ _ sB .non))
theorem has__law_read_choice (T : Txt K w mg D) : Has P w K mg base "_law_read_choice" ["_law_words_here", "_law_whole"] 7 (spLC true) :=
  lc_step T (by decide) (fun _ => rfl) (lc_step T (spR := spNo) (k0 := 5) (by decide) (fun z => by cases z) T.d__law_read_choice.no)

abbrev sLawReadDeed : Stmt := top 45
theorem scLawReadDeed : FnScope ["_law_line_here", "_law_words_here", "_law_numbers_here", "_law_house", "_law_choice"] ["_law_line_here"] (defScope sLawReadDeed) := ⟨rfl, rfl, rfl, by decide +kernel, rfl, by decide +kernel, by decide +kernel⟩
theorem has__law_read_deed (T : Txt K w mg D) : Has P w K mg base "_law_read_deed" ["_law_line_here"] 8 spDeed := by
  have h__law_integers : Has P w K mg base "_law_integers" ["_law_words_here"] 2 spNums := has__law_integers T
  have h__law_read_choice : Has P w K mg base "_law_read_choice" ["_law_words_here", "_law_whole"] 7 (spLC true) := has__law_read_choice T
  refine T.d__law_read_deed.has scLawReadDeed (fun vs H Q E h => ?_) (fun f cdv A outer s H vs Q E hr h => ?_)
  · obtain ⟨x, rfl, _⟩ := h
    rfl
  · obtain ⟨x, rfl, hx, k⟩ := h
    refine ⟨_, (pss_cons (ps_set (i := 1) scLawReadDeed.nd rfl (by first | exact Or.inl rfl | exact Or.inr rfl) (pe_split (pv 0) pe_str))
      (pss_cons (ps_if (pt_cmpR op_eq (pe_ix ix_list (pv 1) pe_int (fun _ _ => rfl)) pe_str (nomark _)) (pss_cons (ps_set (i := 3) scLawReadDeed.nd rfl (by first | exact Or.inl rfl | exact Or.inr rfl) (pe_has h__law_integers (hr.mono (by decide)) (pa_cons (pe_slice sl_list (pv 1) (po_some pe_int) (po_some pe_int)) pa_nil)))
      (pss_cons (ps_set (i := 4) scLawReadDeed.nd rfl (by first | exact Or.inl rfl | exact Or.inr rfl) (pe_has h__law_read_choice (hr.mono (by decide)) (pa_cons (pe_slice sl_list (pv 1) (po_some pe_int) po_none) (pa_cons pe_bl pa_nil))))
      (pss_cons (ps_if (PW.pt (pw_or (pt_cmpR op_isN (pv 3) pe_non (nomark _)) (pw_or (pt_cmpR (op_eqD (hu64 hr)) (pv 3) (pe_tup pa_nil) (nomark _)) (pw_or1 (pt_cmpR op_isN (pv 4) pe_non (nomark _)))))) (pss_one (ps_ret pe_non))
      pss_nil)
      (pss_one (ps_ret (pe_tup (pa_cons pe_str (pa_cons (pe_ix ix_tup (pv 3) pe_int (fun _ _ => rfl)) (pa_cons (pv 4) pa_nil)))))))))
      pss_nil)
      (pss_cons (ps_set (i := 2) scLawReadDeed.nd rfl (by first | exact Or.inl rfl | exact Or.inr rfl) (pe_has h__law_integers (hr.mono (by decide)) (pa_cons (pe_slice sl_list (pv 1) (po_some pe_int) po_none) pa_nil)))
      (pss_cons (ps_if (PW.pt (pw_or (pt_cmpR op_notIn_seq (pe_ix ix_list (pv 1) pe_int (fun _ _ => rfl)) (pe_lst (pa_cons pe_str (pa_cons pe_str (pa_cons pe_str (pa_cons pe_str pa_nil))))) (by rfl)) (pw_or1 (pt_cmpR op_isN (pv 2) pe_non (nomark _))))) (pss_one (ps_ret pe_non))
      pss_nil)
      (pss_cons (ps_if (pt_cmpR op_ne (pe_callB call_len_seq (by rfl) T.len PySem.boot_len (pa_cons (pv 2) pa_nil)) (pe_ix ix_list (pe_lst (pa_cons pe_int (pa_cons pe_int (pa_cons pe_int (pa_cons pe_int pa_nil))))) (pe_bm PySem.F.plainAttrs_list PySem.F.slot_list_index PySem.F.type_list_index mt_index (pe_lst (pa_cons pe_str (pa_cons pe_str (pa_cons pe_str (pa_cons pe_str pa_nil))))) (pa_cons (pe_ix ix_list (pv 1) pe_int (fun _ _ => rfl)) pa_nil)) (fun _ _ => rfl)) (nomark _)) (pss_one (ps_ret pe_non))
      pss_nil)
      (pss_one (ps_ret (pe_op op_catT (pe_tup (pa_cons (pe_ix ix_list (pv 1) pe_int (fun _ _ => rfl)) pa_nil)) (pv 2))))))))), ?_⟩
    have hsz : x.length + 2 ≤ sizeLine := Nat.le_trans (show _ ≤ 30000 by have := hx.short; omega) (by decide)
    refine ⟨_, rfl, ⟨_, rfl⟩, x, _, rfl, rfl, by decide +kernel, hsz, fun a ha' => ?_⟩
    have ok := hx.words tl_sp (by decide)
    have hne := split_ne (x := x) tl_sp (by decide)
    unfold deedD at k
    have ha : Wl (upd H a (.lst ((Txt.split x " ").map V.str))) a (Txt.split x " ") := upd_same
    have s0 := same_new (o := .lst ((Txt.split x " ").map V.str)) ha'
    generalize upd H a (.lst ((Txt.split x " ").map V.str)) = H0 at ha s0 ⊢
    generalize Txt.split x " " = ws at ok hne k ha
    have h0 : atI (ws.map V.str) 0 = some (.str (ws.headD "")) := by
      cases ws with
      | nil => exact absurd rfl hne
      | cons y r => exact atI_nat (j := 0) rfl
    refine ⟨_, rfl, a, _, 0, _, rfl, rfl, SqL.of ha, h0, rfl, _, rfl, ?_⟩
    rw [strD]
    unfold wordsD at k
    by_cases c1 : ws.headD "" = ("choose" : Str)
    · rw [if_pos c1] at k
      rw [decide_eq_true c1]
      refine iteT ?_
      refine ⟨_, rfl, 1, rfl, 2, rfl, slW ha (cut_midE V.str ws (i := 1) (j := 2) (n := 1) (m := 2) rfl rfl) fun q1 H1 s1 hq1 => ⟨q1, _, rfl, hq1, (ok.take 2).drop 1, fun v1 H2 s2 ht1 => ?_⟩⟩
      refine ⟨_, rfl, 2, rfl, slWn (ha.same (s1.trans s2)) (cut_fromE V.str ws (i := 2) (n := 2) rfl) fun q2 H3 s3 hq2 => ⟨q2, _, rfl, hq2, ok.drop 2, fun v2 H4 s4 ht2 => ?_⟩⟩
      rw [if_pos rfl] at ht2
      have ht1 := ht1.same (s3.trans s4)
      have sA := s0.trans (s1.trans (s2.trans (s3.trans s4)))
      have e1 := ht1.isN
      have e2 := ht2.isN
      have ed : (ws.take 2).drop 1 = (ws.drop 1).take 1 := by rw [List.drop_take]
      rw [ed] at ht1 e1
      rw [isN_nums] at e1
      generalize nums ((ws.drop 1).take 1) = o1 at k ht1 e1
      refine ⟨_, rfl, rfl, _, rfl, ?_⟩
      rw [e1]
      cases o1 with
      | none => exact iteT (iteT (k _ _ sA .non))
      | some hs =>
        have ht1' := ht1
        obtain ⟨a1, rfl, h1⟩ := ht1.tupI
        refine iteF ⟨_, rfl, Nat.zero_le _, fun e he => ?_⟩
        have s5 := same_new (o := .tup []) he
        refine ⟨_, .tuple [], Tp.dp _ _ (ht1'.same s5), .tup (SqT.of upd_same) .nil, ?_, by decide +kernel, _, rfl, ?_⟩
        · have := Sh.tupI hs
          exact shaped_of this.1 (Nat.le_trans this.2.1 (by decide))
        · rw [eqv_tup0]
          cases hs with
          | nil => exact iteT (iteT (k _ _ (sA.trans s5) .non))
          | cons z r =>
            refine iteF ⟨_, rfl, rfl, _, rfl, ?_⟩
            rw [e2]
            have k : ∀ (v : V) (H' : Hp), Same H H' → Tp H' v (if isN (choiceD (ws.drop 2)) = true then .none else .tuple [.str "choose", .int z, choiceD (ws.drop 2)]) → Q v H' := k
            by_cases c2 : isN (choiceD (ws.drop 2)) = true
            · rw [if_pos c2] at k
              rw [c2]
              exact iteT (k _ _ (sA.trans s5) .non)
            · rw [if_neg c2] at k
              rw [Bool.eq_false_iff.mpr c2]
              refine iteF ⟨_, rfl, a1, _, 0, .int z, rfl, rfl, SqT.of (s5 _ _ h1), atI_nat (j := 0) rfl, _, rfl, by show 3 ≤ sizeLine; decide, fun t ht => k _ _ ((sA.trans s5).trans (same_new ht)) ?_⟩
              exact .tup upd_same (.cons (.str _) (.cons (.int _) (.cons (ht2.same (s5.trans (same_new ht))) .nil)))
    · rw [if_neg c1] at k
      rw [decide_eq_false c1]
      refine iteF ?_
      refine ⟨_, rfl, 1, rfl, slWn ha (cut_fromE V.str ws (i := 1) (n := 1) rfl) fun q1 H1 s1 hq1 => ⟨q1, _, rfl, hq1, ok.drop 1, fun v1 H2 s2 ht1 => ?_⟩⟩
      have ha2 := ha.same (s1.trans s2)
      have sA := s0.trans (s1.trans s2)
      have few1 : ∀ ns, nums (ws.drop 1) = some ns → ns.length ≤ 29999 ∨ True := fun _ _ => .inr trivial
      have e1 := ht1.isN
      rw [isN_nums] at e1
      generalize nums (ws.drop 1) = o1 at k ht1 e1
      refine ⟨_, rfl, a, _, 0, _, rfl, rfl, SqL.of ha2, h0, by show 4 ≤ sizeLine; decide, fun l hl => ?_⟩
      have s3 := same_new (o := .lst [V.str "offer", V.str "cancel", V.str "undo", V.str "redo"]) hl
      refine ⟨l, (["offer", "cancel", "undo", "redo"] : List Str).map V.str, rfl, .inl (SqL.of upd_same), rfl, rfl, _, rfl, ?_⟩
      have e3 : (if (true : Bool) = true then !inV (.str (ws.headD "")) ((["offer", "cancel", "undo", "redo"] : List Str).map V.str) else inV (.str (ws.headD "")) ((["offer", "cancel", "undo", "redo"] : List Str).map V.str)) = !decide (ws.headD "" ∈ (["offer", "cancel", "undo", "redo"] : List Str)) := by
        rw [if_pos rfl, in_strs]
      rw [e3]
      have sB := sA.trans s3
      have ha3 := ha2.same s3
      have ht1 := ht1.same s3
      generalize upd H2 l (.lst [V.str "offer", V.str "cancel", V.str "undo", V.str "redo"]) = H3 at s3 sB ha3 ht1 ⊢
      by_cases c2 : ws.headD "" ∈ (["offer", "cancel", "undo", "redo"] : List Str)
      · rw [decide_eq_true c2]
        obtain ⟨m, hm, hm3, hix⟩ := deed_ix c2
        rw [hm] at k
        refine iteF ⟨_, rfl, rfl, _, rfl, ?_⟩
        rw [e1]
        cases o1 with
        | none => exact iteT (k _ _ sB .non)
        | some ns =>
          obtain ⟨a1, rfl, h1⟩ := ht1.tupI
          have k : ∀ (v : V) (H' : Hp), Same H H' → Tp H' v (if some m = some ns.length then .tuple (.str (ws.headD "") :: ns.map .int) else .none) → Q v H' := k
          obtain ⟨i1, i2, i3⟩ := idx_at c2
          refine iteF ⟨_, rfl, a1, _, rfl, .inr (SqT.of h1), by show 4 ≤ sizeLine; decide, fun l1 hl1 => ⟨by show 4 ≤ sizeLine; decide, fun l2 hl2 => ?_⟩⟩
          have y1 := same_new (o := .lst [V.int 3, V.int 1, V.int 0, V.int 0]) hl1
          have y2 := same_new (o := .lst [V.str "offer", V.str "cancel", V.str "undo", V.str "redo"]) hl2
          have yy := y1.trans y2
          refine ⟨.inl ⟨rfl, _, SqL.of upd_same⟩, _, rfl, a, _, 0, _, rfl, rfl, SqL.of (ha3.same yy), h0, l2, (["offer", "cancel", "undo", "redo"] : List Str).map V.str, _, _, _, rfl, rfl, SqL.of upd_same, rfl, rfl, i1, i2, i3, l1, _, _, _, rfl, rfl, SqL.of (y2 _ _ upd_same), atI_nat hix, rfl, _, rfl, ?_⟩
          have sC := sB.trans yy
          rw [ints_len, intEq]
          by_cases c3 : m = ns.length
          · rw [if_pos (by rw [c3])] at k
            rw [decide_eq_true (show ((ns.length : Nat) : Int) = (m : Int) by rw [c3])]
            refine iteF ⟨_, rfl, a, _, 0, _, rfl, rfl, SqL.of (ha3.same yy), h0, by show 1 ≤ sizeLine; decide, fun t ht => ?_⟩
            have z1 := same_new (o := .tup [V.str (ws.headD "")]) ht
            refine ⟨_, rfl, catT upd_same (z1 _ _ (yy _ _ h1)) (by simp) (by rw [ints_len, List.length_singleton]; omega) fun t2 H7 z2 ht2' => k _ _ (sC.trans (z1.trans z2)) ?_⟩
            exact .tup ht2' (.cons (.str _) (TpA.ints ns))
          · rw [if_neg (fun z => c3 (Option.some.inj z))] at k
            rw [decide_eq_false (show ¬ ((ns.length : Nat) : Int) = (m : Int) by omega)]
            exact iteT (k _ _ sC .non)
      · rw [decide_eq_false c2]
        have hn := deed_no c2
        refine iteT (iteT (k _ _ sB ?_))
        cases o1 with
        | none => exact .non
        | some ns =>
          show Tp _ _ (if needs (ws.headD "") = some ns.length then _ else _)
          rw [hn, if_neg (fun z => by cases z)]
          exact .non
end
end K99

/-! K99L4 -/
set_option Elab.async false
set_option linter.all false
set_option maxRecDepth 100000
set_option maxHeartbeats 1000000
namespace K99
open PySem L2 TL
open PyProof.Rows (envOfC)
theorem take_while {α : Type} {p : α → Bool} : ∀ {l : List α} {i : Nat} {x : α}, (∀ m ∈ l.take i, p m = true) → l[i]? = some x → p x = false → (l.takeWhile p).length = i
  | [], i, x, _, h, _ => by simp at h
  | a :: l, 0, x, _, h, hx => by
    have e := Option.some.inj h
    subst e
    rw [List.takeWhile_cons, hx]
    rfl
  | a :: l, i + 1, x, ha, h, hx => by
    have h1 : p a = true := ha a (by simp)
    rw [List.takeWhile_cons, h1, if_pos rfl, List.length_cons, take_while (fun m hm => ha m (by rw [List.take_succ_cons]; exact List.mem_cons_of_mem _ hm)) (by simpa using h) hx]
theorem due_bad {ls : List Str} {i : Nat} {l : Str} (ha : ∀ m ∈ ls.dropLast.take i, good m = true) (hi : ls.dropLast[i]? = some l) (hb : good l = false) : dueD ls = badD (i + 1) := by
  unfold dueD
  rw [if_neg, take_while ha hi hb]
  intro z
  have := List.all_eq_true.mp z l (List.mem_of_getElem? hi)
  rw [hb] at this
  cases this
theorem due_last {ls : List Str} (ha : ∀ m ∈ ls.dropLast, good m = true) (h : ls.getLastD "" ≠ ("" : Str)) : dueD ls = badD ls.length := by
  unfold dueD
  rw [if_pos (List.all_eq_true.mpr ha), if_neg h]
theorem due_read {ls : List Str} (ha : ∀ m ∈ ls.dropLast, good m = true) (h : ls.getLastD "" = ("" : Str)) : dueD ls = readD (ls.dropLast.map deedD) := by
  unfold dueD
  rw [if_pos (List.all_eq_true.mpr ha), if_pos h]
theorem LOk.lines {x l : Str} (h : LOk x) (hl : l ∈ linesOf x) : LOk l := by
  obtain ⟨h1, h2, _⟩ := split_mem tl_nl (by decide) hl
  have := h.short
  exact ⟨by omega, fun c hc => h.ok c (h2 c hc)⟩
theorem last_strs {ws : List Str} (h : ws ≠ []) : atI (ws.map V.str) (-1) = some (.str (ws.getLastD "")) := by
  obtain ⟨l, x, e⟩ : ∃ l x, ws = l ++ [x] := ⟨ws.dropLast, ws.getLast h, (List.dropLast_concat_getLast h).symm⟩
  subst e
  rw [List.map_append, List.getLastD_concat]
  exact atI_last _ _
theorem good_isN {l : Str} : isN (deedD l) = !good l := by
  unfold good
  rw [Bool.not_not]
section
variable {X : Cx}
/-- len with its bound -/
theorem call_len_seqB : CallR X (.builtin "len") (fun xs H Q => ∃ p ys, xs = [.ref p] ∧ (SqL X.K H p ys ∨ SqT X.K H p ys) ∧ (ys.length ≤ sizeLine → Q (.int ys.length) H)) := by
  intro pins s σ H xs us Q I r hh
  obtain ⟨p, ys, e, hs, q⟩ := hh
  have hl : ys.length ≤ sizeLine := by
    rcases hs with hs | hs
    · obtain ⟨_, _, _, hl⟩ := I.list hs
      exact hl
    · obtain ⟨_, _, _, hl⟩ := I.tuple hs
      exact hl
  exact call_len_seq pins s σ H xs us Q I r ⟨p, ys, e, hs, q hl⟩
end

section
variable {P : Program} {w : World} {K : PySem.W.Frag} {mg : Str → Option Value} {base : Heap} {D : Addr}
abbrev sLawDueOf : Stmt := top 50
theorem scLawDueOf : FnScope ["_law_text", "_law_lines", "_law_deeds", "_law_k", "_law_deed"] ["_law_text"] (defScope sLawDueOf) := ⟨rfl, rfl, rfl, by decide +kernel, rfl, by decide +kernel, by decide +kernel⟩
def spDueOf : Sp := fun vs H Q _ => ∃ x : Str, vs = [.str x] ∧ LOk x ∧ ∀ (v : V) (H' : Hp), Same H H' → Tp H' v (dueD (linesOf x)) → Q v H'
theorem has__law_due_of (T : Txt K w mg D) : Has P w K mg base "_law_due_of" ["_law_text"] 9 spDueOf := by
  have h__law_read_deed : Has P w K mg base "_law_read_deed" ["_law_line_here"] 8 spDeed := has__law_read_deed T
  refine T.d__law_due_of.has scLawDueOf (fun vs H Q E h => ?_) (fun f cdv A outer s H vs Q E hr h => ?_)
  · obtain ⟨x, rfl, _⟩ := h
    rfl
  · obtain ⟨x, rfl, hx, k⟩ := h
    refine ⟨_, (pss_cons (ps_set (i := 1) scLawDueOf.nd rfl (by first | exact Or.inl rfl | exact Or.inr rfl) (pe_split (pv 0) pe_str))
      (pss_cons (ps_set (i := 2) scLawDueOf.nd rfl (by first | exact Or.inl rfl | exact Or.inr rfl) (pe_lst pa_nil))
      (pss_cons (ps_for PassesOwn.never rfl (pi_range1 (by rfl) T.range (pa_cons (pe_op op_sub (pe_callB call_len_seq (by rfl) T.len PySem.boot_len (pa_cons (pv 1) pa_nil)) pe_int) pa_nil)) (pg_name (i := 3) scLawDueOf.nd rfl (Or.inl rfl))
      (pss_cons (ps_set (i := 4) scLawDueOf.nd rfl (by first | exact Or.inl rfl | exact Or.inr rfl) (pe_has h__law_read_deed (hr.mono (by decide)) (pa_cons (pe_ix ix_list (pv 1) (pv 3) (fun _ _ => rfl)) pa_nil)))
      (pss_cons (ps_if (pt_cmpR op_isN (pv 4) pe_non (nomark _)) (pss_one (ps_ret (pe_tup (pa_cons pe_str (pa_cons (pe_op op_add (pv 3) pe_int) pa_nil)))))
      pss_nil)
      (pss_one (ps_expr (pe_bm PySem.F.plainAttrs_list PySem.F.slot_list_append PySem.F.type_list_append mt_append (pv 2) (pa_cons (pv 4) pa_nil)))))))
      (pss_cons (ps_if (pt_cmpR op_ne (pe_ix ix_list (pv 1) (pe_un un_neg pe_int) (fun _ _ => rfl)) pe_str (nomark _)) (pss_one (ps_ret (pe_tup (pa_cons pe_str (pa_cons (pe_callB call_len_seq (by rfl) T.len PySem.boot_len (pa_cons (pv 1) pa_nil)) pa_nil)))))
      pss_nil)
      (pss_one (ps_ret (pe_tup (pa_cons pe_str (pa_cons (pe_callTy call_tuple_of (by rfl) T.tuple (by decide +kernel) (pa_cons (pv 2) pa_nil)) pa_nil))))))))), ?_⟩
    have hsz : x.length + 2 ≤ sizeLine := Nat.le_trans (show _ ≤ 30000 by have := hx.short; omega) (by decide)
    refine ⟨_, rfl, ⟨_, rfl⟩, x, _, rfl, rfl, by decide +kernel, hsz, fun a ha' => ?_⟩
    have hlk : ∀ l ∈ linesOf x, LOk l := fun l hl => hx.lines hl
    have few : (linesOf x).length ≤ 20002 := by
      have := split_few (x := x) tl_nl (by decide)
      have := hx.short
      show (Txt.split x "\n").length ≤ _
      omega
    have hne : linesOf x ≠ [] := split_ne (x := x) tl_nl (by decide)
    have ha : Wl (upd H a (.lst ((linesOf x).map V.str))) a (linesOf x) := upd_same
    have s0 := same_new (o := .lst ((linesOf x).map V.str)) ha'
    show tSeq _ _ _ _ (upd H a (.lst ((linesOf x).map V.str)))
    generalize upd H a (.lst ((linesOf x).map V.str)) = H0 at ha s0 ⊢
    generalize linesOf x = ls at hlk few hne ha k ⊢
    have hdl : ls.dropLast.length = ls.length - 1 := List.length_dropLast
    have hpos : 0 < ls.length := List.length_pos_iff.mpr hne
    refine ⟨Nat.zero_le _, fun G hG => ?_⟩
    have sG := same_new (o := .lst []) hG
    refine ⟨_, rfl, a, _, rfl, .inl (SqL.of (ha.same sG)), _, _, rfl, rfl, _, rfl, ?_⟩
    rw [List.length_map]
    refine ⟨by omega, by omega, ?_⟩
    have ej : (((ls.length : Nat) : Int) - 1).toNat = ls.dropLast.length := by omega
    rw [ej]
    refine for_range (lo := 0) (n := ls.dropLast.length) (fun i σ H' => ∃ (v3 v4 : Option V) (acc : List V), σ = [some (.str x), some (.ref a), some (.ref G), v3, v4] ∧ FillSt H0 H' G acc ((ls.dropLast.take i).map deedD) ∧ ∀ l ∈ ls.dropLast.take i, good l = true)
      ⟨none, none, [], rfl, ⟨sG, hG, upd_same, by rw [List.take_zero]; exact .nil⟩, fun p hp => by rw [List.take_zero] at hp; cases hp⟩ ?_ ?_
    · rintro i σ H2 hi ⟨v3, v4, acc, rfl, c, hall⟩
      have hld : ls.dropLast[i]? = some (ls.dropLast[i]) := List.getElem?_eq_getElem hi
      have hl : ls[i]? = some (ls.dropLast[i]) := by
        rw [← hld, List.getElem?_dropLast, if_pos (by omega)]
      generalize ls.dropLast[i] = l at hld hl
      have hlm : l ∈ ls := List.mem_of_getElem? hl
      have ez : (0 : Int) + (i : Int) = (i : Int) := by omega
      rw [ez]
      refine ⟨_, rfl, _, rfl, a, _, (i : Int), .str l, rfl, rfl, SqL.of (ha.same c.same), atI_nat (j := i) (by rw [List.getElem?_map, hl]; rfl), l, rfl, hlk l hlm, fun v H3 s3 ht => ?_⟩
      have e1 := ht.isN
      rw [good_isN] at e1
      refine ⟨_, rfl, rfl, _, rfl, ?_⟩
      rw [e1]
      cases hg : good l with
      | false =>
        refine iteT ⟨_, rfl, _, _, rfl, rfl, by show 2 ≤ sizeLine; decide, fun t ht2 => k _ _ (s0.trans (c.same.trans (s3.trans (same_new ht2)))) ?_⟩
        rw [due_bad hall hld hg]
        exact .tup upd_same (.cons (.str _) (.cons (.int _) .nil))
      | true =>
        refine iteF ⟨_, rfl, .inl ⟨rfl, _, SqL.of (s3 _ _ c.hG)⟩, _, rfl, G, _, _, rfl, rfl, s3 _ _ c.hG, ?_, _, _, acc ++ [v], rfl, ?_, ?_⟩
        · rw [c.tp.length, List.length_map, List.length_take]
          exact Nat.lt_of_le_of_lt (show _ ≤ 30000 by omega) (by decide)
        · rw [take_map_succ hld]
          exact c.push s3 ht
        · intro z hz
          rw [List.take_succ, hld] at hz
          rcases List.mem_append.mp hz with hz | hz
          · exact hall z hz
          · have e : z = l := by simpa using hz
            rw [e, hg]
    · rintro σ H2 ⟨v3, v4, acc, rfl, c, hall⟩
      rw [List.take_length] at c hall
      refine ⟨_, rfl, 1, rfl, a, _, -1, _, rfl, rfl, SqL.of (ha.same c.same), last_strs hne, rfl, _, rfl, ?_⟩
      rw [strD]
      by_cases ce : ls.getLastD "" = ("" : Str)
      · rw [decide_eq_true ce]
        refine iteF ⟨_, rfl, G, _, rfl, .inl ⟨SqL.of c.hG, fun l hl => ⟨by show 2 ≤ sizeLine; decide, fun t ht2 => k _ _ (s0.trans (c.same.trans ((same_new hl).trans (same_new ht2)))) ?_⟩⟩⟩
        rw [due_read hall ce]
        have sN := (same_new (o := .tup acc) hl).trans (same_new (o := .tup [V.str "read", V.ref l]) ht2)
        exact .tup upd_same (.cons (.str _) (.cons (.tup (by rw [upd_ne (ptr_ne ht2)]; exact upd_same) (c.tp.same sN)) .nil))
      · rw [decide_eq_false ce]
        refine iteT ⟨_, rfl, a, _, rfl, .inl (SqL.of (ha.same c.same)), by show 2 ≤ sizeLine; decide, fun t ht2 => k _ _ (s0.trans (c.same.trans (same_new ht2))) ?_⟩
        rw [due_last hall ce]
        rw [List.length_map]
        exact .tup upd_same (.cons (.str _) (.cons (.int _) .nil))

abbrev sLawSame : Stmt := top 47
theorem scLawSame : FnScope ["_law_actual", "_law_due_here", "_law_k"] ["_law_actual", "_law_due_here"] (defScope sLawSame) := ⟨rfl, rfl, rfl, by decide +kernel, rfl, by decide +kernel, by decide +kernel⟩
def spSame (n : Nat) : Sp := fun vs H Q _ => ∃ (v u : V) (d : PyData), vs = [v, u] ∧ Tp H v d ∧ Tp H u d ∧ nb d = true ∧ d.depth ≤ n ∧ Q (.bl true) H
theorem depth_get : ∀ {ds : List PyData} {i : Nat} {d : PyData}, ds[i]? = some d → d.depth ≤ PyData.depthAll ds
  | [], i, d, e => by simp at e
  | x :: ds, 0, d, e => by
    have e := Option.some.inj e
    subst e
    simp only [PyData.depthAll]
    omega
  | x :: ds, i + 1, d, e => by
    have := depth_get (ds := ds) (i := i) (d := d) (by simpa using e)
    simp only [PyData.depthAll]
    omega
theorem same_step (T : Txt K w mg D) {n k0 : Nat} {spR : Sp} (hR : ∀ m, n = m + 1 → spR = spSame m) (h__law_same : Has P w K mg base "_law_same" ["_law_actual", "_law_due_here"] k0 spR) : Has P w K mg base "_law_same" ["_law_actual", "_law_due_here"] (k0 + 1) (spSame n) := by
  refine T.d__law_same.has scLawSame (fun vs H Q E h => ?_) (fun f cdv A outer s H vs Q E hr h => ?_)
  · obtain ⟨v, u, d, rfl, _⟩ := h
    rfl
  · obtain ⟨v, u, d, rfl, hv, hu, hnb, hdp, k⟩ := h
    refine ⟨_, (pss_cons (ps_if (pt_cmpR op_isN (pv 1) pe_non (nomark _)) (pss_one (ps_ret (pe_cmpR op_isN (pv 0) pe_non (nomark _))))
      pss_nil)
      (pss_cons (ps_if (pt_val (pe_callB call_isi (by rfl) T.isinstance (by decide +kernel) (pa_cons (pv 1) (pa_cons (pe_bltn (v := .ty "str") (by rfl) T.str (by decide +kernel) rfl) pa_nil)))) (pss_one (ps_ret (pe_and (pe_callB call_isi (by rfl) T.isinstance (by decide +kernel) (pa_cons (pv 0) (pa_cons (pe_bltn (v := .ty "str") (by rfl) T.str (by decide +kernel) rfl) pa_nil))) (pe_one (pe_cmpR op_eq (pv 0) (pv 1) (nomark _))))))
      pss_nil)
      (pss_cons (ps_if (pt_val (pe_callB call_isi (by rfl) T.isinstance (by decide +kernel) (pa_cons (pv 1) (pa_cons (pe_bltn (v := .ty "int") (by rfl) T.int (by decide +kernel) rfl) pa_nil)))) (pss_one (ps_ret (pe_and (pe_callB call_isi (by rfl) T.isinstance (by decide +kernel) (pa_cons (pv 0) (pa_cons (pe_bltn (v := .ty "int") (by rfl) T.int (by decide +kernel) rfl) pa_nil))) (pe_and (pe_not (pe_callB call_isi (by rfl) T.isinstance (by decide +kernel) (pa_cons (pv 0) (pa_cons (pe_bltn (v := .ty "bool") (by rfl) T.bool (by decide +kernel) rfl) pa_nil)))) (pe_one (pe_cmpR op_eq (pv 0) (pv 1) (nomark _)))))))
      pss_nil)
      (pss_cons (ps_if (PW.pt (pw_or (pt_not (pt_val (pe_callB call_isi (by rfl) T.isinstance (by decide +kernel) (pa_cons (pv 0) (pa_cons (pe_bltn (v := .ty "tuple") (by rfl) T.tuple (by decide +kernel) rfl) pa_nil))))) (pw_or1 (pt_cmpR op_ne (pe_callB call_len_seq (by rfl) T.len PySem.boot_len (pa_cons (pv 0) pa_nil)) (pe_callB call_len_seq (by rfl) T.len PySem.boot_len (pa_cons (pv 1) pa_nil)) (nomark _))))) (pss_one (ps_ret pe_bl))
      pss_nil)
      (pss_cons (ps_for PassesOwn.never rfl (pi_range1 (by rfl) T.range (pa_cons (pe_callB call_len_seqB (by rfl) T.len PySem.boot_len (pa_cons (pv 1) pa_nil)) pa_nil)) (pg_name (i := 2) scLawSame.nd rfl (Or.inl rfl))
      (pss_one (ps_if (pt_not (pt_val (pe_has h__law_same (hr.mono (by omega)) (pa_cons (pe_ix ix_tup (pv 0) (pv 2) (fun _ _ => rfl)) (pa_cons (pe_ix ix_tup (pv 1) (pv 2) (fun _ _ => rfl)) pa_nil))))) (pss_one (ps_ret pe_bl))
      pss_nil)))
      (pss_one (ps_ret pe_bl))))))), ?_⟩
    have e1 := hu.isN
    refine ⟨_, rfl, rfl, _, rfl, ?_⟩
    rw [e1]
    cases hv with
    | non => exact iteT ⟨_, rfl, rfl, k⟩
    | bl b => simp [nb] at hnb
    | str x =>
      cases hu
      refine iteF ⟨_, rfl, _, _, _, _, true, rfl, .ty "str", .base (.str _), kit_ty (by decide +kernel), _, rfl, iteT ?_⟩
      refine ⟨_, rfl, _, _, _, _, true, rfl, .ty "str", .base (.str _), kit_ty (by decide +kernel), true, rfl, iteT ⟨_, rfl, _, rfl, rfl, ?_⟩⟩
      rw [decide_eq_true rfl]
      exact k
    | int i =>
      cases hu
      refine iteF ⟨_, rfl, _, _, _, _, false, rfl, .ty "str", .base (.int _), kit_ty (by decide +kernel), _, rfl, iteF ?_⟩
      refine ⟨_, rfl, _, _, _, _, true, rfl, .ty "int", .base (.int _), kit_ty (by decide +kernel), _, rfl, iteT ?_⟩
      refine ⟨_, rfl, _, _, _, _, true, rfl, .ty "int", .base (.int _), kit_ty (by decide +kernel), true, rfl, iteT ⟨_, rfl, _, _, _, _, false, rfl, .ty "bool", .base (.int _), kit_ty (by decide +kernel), false, rfl, true, rfl, iteT ⟨_, rfl, _, rfl, rfl, ?_⟩⟩⟩
      rw [decide_eq_true rfl]
      exact k
    | tup ha hA =>
      rename_i a xs ds
      cases hu with
      | tup hb hB =>
        rename_i b ys
        refine iteF ⟨_, rfl, _, _, _, _, false, rfl, .ty "str", .base (.tup hb), kit_ty (by decide +kernel), _, rfl, iteF ?_⟩
        refine ⟨_, rfl, _, _, _, _, false, rfl, .ty "int", .base (.tup hb), kit_ty (by decide +kernel), _, rfl, iteF ?_⟩
        refine ⟨_, rfl, _, _, _, _, true, rfl, .ty "tuple", .base (.tup ha), kit_ty (by decide +kernel), _, rfl, iteF ?_⟩
        refine ⟨_, rfl, a, _, rfl, .inr (SqT.of ha), _, rfl, b, _, rfl, .inr (SqT.of hb), rfl, _, rfl, ?_⟩
        have lx := hA.length
        have ly := hB.length
        rw [intEq, decide_eq_true (show ((xs.length : Nat) : Int) = ((ys.length : Nat) : Int) by omega)]
        refine iteF ⟨_, rfl, b, _, rfl, .inr (SqT.of hb), fun hl => ⟨_, rfl, by omega, by have := sizeLine_eq; omega, ?_⟩⟩
        rw [Int.toNat_natCast]
        refine for_range (lo := 0) (n := ys.length) (fun i σ H' => ∃ v2 : Option V, σ = [some (.ref a), some (.ref b), v2] ∧ H' = H) ⟨none, rfl, rfl⟩ ?_ ?_
        · rintro i σ H2 hi ⟨v2, rfl, rfl⟩
          obtain ⟨m, hm⟩ : ∃ m, n = m + 1 := by
            simp only [PyData.depth] at hdp
            exact ⟨n - 1, by omega⟩
          have hR := hR m hm
          subst hR
          have hdi : ds[i]? = some (ds[i]'(by omega)) := List.getElem?_eq_getElem _
          obtain ⟨x, hx, tx⟩ := hA.get hdi
          obtain ⟨y, hy, ty⟩ := hB.get hdi
          have ez : (0 : Int) + (i : Int) = (i : Int) := by omega
          rw [ez]
          refine ⟨_, rfl, _, rfl, a, _, (i : Int), _, rfl, rfl, SqT.of ha, atI_nat (j := i) hx, _, rfl, _, rfl, b, _, (i : Int), _, rfl, rfl, SqT.of hb, atI_nat (j := i) hy, x, y, _, rfl, tx, ty, ?_, ?_, _, rfl, iteF ⟨_, rfl, rfl⟩⟩
          · simp only [nb] at hnb
            exact nbA_get hnb hdi
          · have := depth_get hdi
            simp only [PyData.depth] at hdp
            omega
        · rintro σ H2 ⟨v2, rfl, rfl⟩
          exact k
theorem has__law_same (T : Txt K w mg D) : ∀ n : Nat, Has P w K mg base "_law_same" ["_law_actual", "_law_due_here"] (n + 1) (spSame n)
  | 0 => same_step T (spR := spNo) (k0 := 0) (fun m h => by omega) T.d__law_same.no
  | n + 1 => same_step T (fun m h => by rw [show m = n by omega]) (has__law_same T n)
end
end K99

/-! K99X0 -/
set_option Elab.async false
set_option linter.all false
set_option maxRecDepth 100000
/-! What the top has written of the classes of errors. -/
namespace K99
open PySem L2
/-- the class x stands there; b: it is a class of BadText's errors -/
def ClsIs (K : PySem.W.Frag) (mg : Str → Option Value) (BT : Addr) (x : Str) (b : Bool) : Prop := ∃ C : Addr, mg x = some (.ref C) ∧ PySem.W.kitOne K (.ref BT) (.ref C) = some b
structure TxtX (K : PySem.W.Frag) (mg : Str → Option Value) (CE BT fI : Addr) : Prop where
  gCE : mg "ContractError" = some (.ref CE)
  gBT : mg "BadText" = some (.ref BT)
  oex : OexC K BT
  xf : XfC K BT
  isC : ExcC K BT
  noL : PySem.W.findIn K (.ref BT) "line" = some none
  iC : PySem.W.findIn K (.ref BT) "__init__" = some (some (.ref fI))
  tI : PySem.W.typeIn K (.ref fI) = some (.type "function")
  init : ∃ fd, Fun K "__init__" "BadText.__init__" (inClass (top 4) 0) fI fd ∧ Binds K fd ["self", "line"] []
  exm : PySem.W.exmOne K (.ref BT) (.ref CE) = some true
  cInvalidWeb : ClsIs K mg BT "InvalidWeb" false
  cNotSound : ClsIs K mg BT "NotSound" false
  cBadText : ClsIs K mg BT "BadText" true
  cNoHouse : ClsIs K mg BT "NoHouse" false
  cNoContract : ClsIs K mg BT "NoContract" false
  cNoLetter : ClsIs K mg BT "NoLetter" false
  cNothingToUndo : ClsIs K mg BT "NothingToUndo" false
  cNothingToRedo : ClsIs K mg BT "NothingToRedo" false
  kVE : PySem.W.kitOne K (.ref BT) (.type "ValueError") = some true
end K99

/-! K99X1 -/
set_option Elab.async false
set_option linter.all false
set_option maxRecDepth 100000
set_option maxHeartbeats 2000000
/-! A class of errors whose __init__ is walked; calls where an error is handled. -/
namespace K99
open PySem PySem.Spec PyProof.Rows L2 TL

section
variable {X : Cx} {x : Str} {e : Expr} {es : List Expr} {ta : TA} {p pos : Pos} {BT fI : Addr} {k : Nat} {fd : FuncData} {ps : List Str} {sp : Sp}
/-- C(e, ..), C's own __init__ keeping sp; the context is None -/
theorem pmk_init (T : OexC X.K BT) (hI : PySem.W.findIn X.K (.ref BT) "__init__" = some (some (.ref fI))) (hT : PySem.W.typeIn X.K (.ref fI) = some (.type "function")) (F1 : FnOk X.prog X.w X.K X.mg X.base CX0 k fI fd ps sp) (room : Room (k + 1) X.A)
    (bi : Binds X.K fd ps []) (hg : Gl X x) (hm : X.mg x = some (.ref BT)) (ha : PA X (e :: es) ta) (hdb : (x == ("__debug__" : Str)) = false := by decide) (he : starEach (e :: es) X.env = (false, eval e X.env) :: starEach es X.env := by rfl)
    (hpl : (backTo pos (starEach es X.env)).any (·.1) = false := by rfl) : L2N.PMk X (.Call (.Name x p) (e :: es) [] pos) (tMkO BT sp [] ta) := by
  intro pins s σ H Q I0 h0
  obtain ⟨nmC, qC, NC, bsC, bmC, snC, subC, abC, colC, ddC, j0, j1, j2, j3, j5, lkC, mroC⟩ := T.cls
  refine wpAny_Call_Name_kw (ld_glob I0 hg hm ?_ hdb)
  refine PySem.W.callWith_K (h₀ := X.base) I0.ok.mod.kin T.kC (thn (ha.run pos pins s σ H _ I0 h0) fun us s1 ⟨vs, H1, I1, r1, _, g1⟩ => ⟨I1.kIn, ?_⟩) he hpl
  show wpAny _ _ (call (.ref BT) us) _ _ _
  obtain ⟨hp, gs, dr, tk, os⟩ := s1
  have le1 : hp.objs.size ≤ hp.objs.size + 1 := Nat.le_add_right _ 1
  have new1 : H1 (hp.objs.size + 1) = none := I1.hok.fresh le1
  have g2 := g1 (hp.objs.size + 1) new1
  have keep2 : ∀ b o, hp.get? b = some o → ((hp.push (PySem.W.kdv_tup us)).push (PySem.HandSPX.excO BT hp.objs.size)).get? b = some o := fun b o z => Heap.get?_push_of_some _ (Heap.get?_push_of_some _ z)
  have at2 : ((hp.push (PySem.W.kdv_tup us)).push (PySem.HandSPX.excO BT hp.objs.size)).get? (hp.objs.size + 1) = some (PySem.HandSPX.excO BT hp.objs.size) := by heap_get
  have I2 := I1.laid (t' := tk) (o := exo (hp.objs.size + 1) BT none) (h' := (hp.push (PySem.W.kdv_tup us)).push (PySem.HandSPX.excO BT hp.objs.size)) keep2 le1 (exo_ok at2)
  have rr : Vals (V.ref (hp.objs.size + 1) :: (vs ++ [])) (Value.ref (hp.objs.size + 1) :: us) := .cons rfl (by rw [List.append_nil]; exact r1)
  have ll : (Value.ref (hp.objs.size + 1) :: us ++ []).length = ps.length := by
    have z := rr.length
    rw [F1.len _ _ _ _ g2] at z
    rw [List.append_nil]
    exact z.symm
  have us1 : us.length ≤ sizeLine := by
    rw [sizeLine_eq, ← Paired.length r1]
    omega
  have bind2 := bi _ (Value.ref (hp.objs.size + 1) :: us) I2.kIn ll
  rw [List.append_nil] at bind2
  have run := F1.run (X.A.under (.builtin "type.__call__" ⟨.ref BT :: us, []⟩)) X.stack _ _ ⟨Value.ref (hp.objs.size + 1) :: us, []⟩ (Value.ref (hp.objs.size + 1) :: us) _ _ (fun _ _ _ => False) (room.make BT us []) (I2.env0.make BT us []) bind2 rr g2
  refine wpAny_call (PySem.HandSPX.call_own F.excBase_ValueError (fun Y => PySem.HandSPX.refsVE_contains Y bmC mroC) (I1.kIn _ _ lkC) (PySem.W.looks_findIn I1.kIn hI) (fun self => PySem.W.bind_fn I1.kIn self hT) us1 (codeAny_mono run fun r s' out => ?_))
  cases r with
  | error er => exact (show False from out).elim
  | ok fl =>
    cases fl with
    | ret u =>
      obtain ⟨v, H2, os2, bare2, un2, hok2, rv, ev, d, fs, ea, ed, free_d, fin⟩ := out
      subst ev
      obtain ⟨h2, g3, d2, t2, os'⟩ := s'
      obtain ⟨t0, G, J, kG, ge, hoe, na⟩ := mk_end0 (d2 := d2) (t2 := t2) I1 le1 keep2 un2 hok2 os2 bare2 ea ed free_d
      exact ⟨rv, ⟨hp.objs.size + 1, _, _, ⟨G, g3, d2, t2, os'⟩, _, .ref BT, some d, rfl, J, kG, ge, hoe, ⟨rfl, rfl, fun ws z => by cases z; rfl⟩, rfl, rfl, na, rfl, bare2, raises_own T.exC T.tyC, fin⟩⟩
    | next => exact (show False from out).elim
    | brk => exact (show False from out).elim
    | cont => exact (show False from out).elim
end

section
variable {P : Program} {w : World} {K : PySem.W.Frag} {mg : Str → Option Value} {base : Heap} {D CE BT fI : Addr}
abbrev sBTInit : Stmt := inClass (top 4) 0
theorem scBTInit : FnScope ["self", "line"] ["self", "line"] (defScope sBTInit) := ⟨rfl, rfl, rfl, by decide +kernel, rfl, by decide +kernel, by decide +kernel⟩
def spBTInit (BT : Addr) : Sp := fun vs H Q _ => ∃ (a : Addr) (n : Int), vs = [.ref a, .int n] ∧ H a = some (exo a BT none) ∧ ∀ dx, H dx = none → dx ≠ a → Q .non (upd (upd H dx (exd dx [("line", .int n)])) a (exo a BT (some dx)))
theorem has_init (T : TxtX K mg CE BT fI) : ∃ fd, Binds K fd ["self", "line"] [] ∧ FnOk P w K mg base CX0 1 fI fd ["self", "line"] (spBTInit BT) := by
  obtain ⟨fd, F, b⟩ := T.init
  refine ⟨fd, b, F.ok scBTInit (fun vs H Q E h => ?_) fun cdv A outer s H vs Q E hr h => ?_⟩
  · obtain ⟨a, n, rfl, _⟩ := h
    rfl
  · obtain ⟨a, n, rfl, ha, q⟩ := h
    exact ⟨_, pss_one (ps_ost (pv 0) (pv 1)), _, rfl, _, rfl, a, BT, rfl, T.oex, T.noL, .inl ⟨ha, fun dx h1 h2 => q dx h1 h2⟩⟩
theorem pmk_bt {X : Cx} {e : Expr} {te : TE} {p pos : Pos} (T : TxtX X.K X.mg CE BT fI) (room : Room 2 X.A) (hg : Gl X "BadText") (ha : PE X e te) (he : starEach [e] X.env = (false, eval e X.env) :: starEach [] X.env := by rfl)
    (hpl : (backTo pos (starEach [] X.env)).any (·.1) = false := by rfl) : L2N.PMk X (.Call (.Name "BadText" p) [e] [] pos) (tMkO BT (spBTInit BT) [] (tCons te tNil)) := by
  obtain ⟨fd, b, F⟩ := has_init (P := X.prog) (w := X.w) (base := X.base) T
  exact pmk_init (p := p) (pos := pos) T.oex T.iC T.tI F room b hg T.gBT (pa_cons ha pa_nil he) (by decide) he hpl
/-- what the making of BadText(n) asks -/
theorem mk_read {H1 : Hp} {n : Int} {Q : XK} (q : ∀ d, H1 d = none → Q (.ref BT) (some d) (upd H1 d (.xd [("line", .int n)]))) : [V.int n].length ≤ 1000 ∧ ∀ a, H1 a = none → spBTInit BT (.ref a :: ([V.int n] ++ [])) (upd H1 a (exo a BT none))
    (fun v H2 => v = .non ∧ ∃ (d : Addr) (fs : List (Str × V)), H2 a = some (exo a BT (some d)) ∧ H2 d = some (exd d fs) ∧ H1 d = none ∧ Q (.ref BT) (some d) (upd (del H2 a) d (.xd fs))) (fun _ _ _ => False) := by
  refine ⟨by simp, fun a ha => ⟨a, n, rfl, upd_same, fun dx h1 h2 => ⟨rfl, dx, [("line", .int n)], upd_same, ?_, ?_, ?_⟩⟩⟩
  · rw [upd_ne h2, upd_same]
  · rw [upd_ne h2] at h1
    exact h1
  · rw [upd_ne h2] at h1
    have e : upd (del (upd (upd (upd H1 a (exo a BT none)) dx (exd dx [("line", .int n)])) a (exo a BT (some dx))) a) dx (.xd [("line", .int n)]) = upd H1 dx (.xd [("line", .int n)]) := by
      funext b
      by_cases hb : b = dx
      · rw [hb, upd_same, upd_same]
      · rw [upd_ne hb, upd_ne hb]
        by_cases hc : b = a
        · rw [hc, del_same, ha]
        · rw [del_ne hc, upd_ne hc, upd_ne hb, upd_ne hc]
    rw [e]
    exact q dx h1
end
end K99

/-! K99X2 -/
set_option Elab.async false
set_option linter.all false
set_option maxRecDepth 100000
set_option maxHeartbeats 2000000
namespace K99
open PySem L2 TL
open PyProof.Rows (envOfC)
section
variable {P : Program} {w : World} {K : PySem.W.Frag} {mg : Str → Option Value} {base : Heap} {D CE BT fI : Addr}
abbrev sReadJournal : Stmt := top 26
theorem scReadJournal : FnScope ["text", "lines", "deeds", "index", "line", "deed"] ["text"] (defScope sReadJournal) := ⟨rfl, rfl, rfl, by decide +kernel, rfl, by decide +kernel, by decide +kernel⟩
/-- the deeds of a text in a tuple, or a BadText of the due line leaves -/
def spJournal (BT : Addr) : Sp := fun vs H Q E => ∃ x : Str, vs = [.str x] ∧ LOk x ∧ (∀ ds, dueD (linesOf x) = readD ds → ∀ (v : V) (H' : Hp), Same H H' → Tp H' v (.tuple ds) → Q v H') ∧
  ∀ n : Nat, dueD (linesOf x) = badD n → ∀ (d : Addr) (H' : Hp), Same H H' → H' d = some (.xd [("line", .int n)]) → E (.ref BT) (some d) H'
theorem has_journal (T : Txt K w mg D) (TX : TxtX K mg CE BT fI) : ∃ (f : Addr) (fd : FuncData), mg "read_journal" = some (.ref f) ∧ PySem.W.keepIn K (.ref f) = true ∧ Binds K fd ["text"] [] ∧ FnOk P w K mg base (L2N.CX P w) 9 f fd ["text"] (spJournal BT) := by
  have h_read_deed : Has P w K mg base "read_deed" ["line"] 8 spDeed := has_read_deed T
  obtain ⟨f, fd, g1, F, g2⟩ := T.d_read_journal.ex
  refine ⟨f, fd, g1, F.kp, g2, ?_⟩
  obtain ⟨oc, od, kV, doc, pm, an, cdv, ct, osl, rfl, lkF, hcd⟩ := F.ex
  refine fn_of lkF hcd scReadJournal (fun vs H Q E h => ?_) (fun A outer s H vs Q E hr h => ?_)
  · obtain ⟨x, rfl, _⟩ := h
    rfl
  · obtain ⟨x, rfl, hx, kR, kB⟩ := h
    have tk := L2N.takes_of (X := cxOf (L2N.CX P w) P w K mg base ["text", "lines", "deeds", "index", "line", "deed"] "read_journal" (defScope sReadJournal) f cdv A outer s H E) (E := E) rfl rfl rfl rfl
    refine ⟨_, (pss_cons (ps_set (i := 1) scReadJournal.nd rfl (by first | exact Or.inl rfl | exact Or.inr rfl) (pe_split (pv 0) pe_str))
      (pss_cons (ps_set (i := 2) scReadJournal.nd rfl (by first | exact Or.inl rfl | exact Or.inr rfl) (pe_lst pa_nil))
      (pss_cons (ps_for (passes_of rfl) rfl (pi_enum (by rfl) T.enumerate (pa_cons (pe_slice sl_list (pv 1) po_none (po_some (pe_un un_neg pe_int))) pa_nil)) (pg_tup rfl (pgs_cons (pg_name (i := 3) scReadJournal.nd rfl (.inl rfl)) (pgs_cons (pg_name (i := 4) scReadJournal.nd rfl (.inl rfl)) pgs_nil)))
      (pss_cons (ps_set (i := 5) scReadJournal.nd rfl (by first | exact Or.inl rfl | exact Or.inr rfl) (pe_has h_read_deed (hr.mono (by decide)) (pa_cons (pv 4) pa_nil)))
      (pss_cons (ps_if (pt_cmpR op_isN (pv 5) pe_non (nomark _)) (pss_one (L2N.ps_raise rfl tk (pmk_bt TX (hr.mono (by decide)) (by rfl) (pe_op op_add (pv 3) pe_int))))
      pss_nil)
      (pss_one (ps_expr (pe_bm PySem.F.plainAttrs_list PySem.F.slot_list_append PySem.F.type_list_append mt_append (pv 2) (pa_cons (pv 5) pa_nil)))))))
      (pss_cons (ps_if (pt_cmpR op_ne (pe_ix ix_list (pv 1) (pe_un un_neg pe_int) (fun _ _ => rfl)) pe_str (nomark _)) (pss_one (L2N.ps_raise rfl tk (pmk_bt TX (hr.mono (by decide)) (by rfl) (pe_callB call_len_seq (by rfl) T.len PySem.boot_len (pa_cons (pv 1) pa_nil)))))
      pss_nil)
      (pss_one (ps_ret (pe_callTy call_tuple_of (by rfl) T.tuple (by decide +kernel) (pa_cons (pv 2) pa_nil)))))))), ?_⟩
    have hsz : x.length + 2 ≤ sizeLine := Nat.le_trans (show _ ≤ 30000 by have := hx.short; omega) (by decide)
    refine ⟨_, rfl, ⟨_, rfl⟩, x, _, rfl, rfl, by decide +kernel, hsz, fun a ha' => ?_⟩
    have hlk : ∀ l ∈ linesOf x, LOk l := fun l hl => hx.lines hl
    have few : (linesOf x).length ≤ 20002 := by
      have := split_few (x := x) tl_nl (by decide)
      have := hx.short
      show (Txt.split x "\n").length ≤ _
      omega
    have hne : linesOf x ≠ [] := split_ne (x := x) tl_nl (by decide)
    have ha : Wl (upd H a (.lst ((linesOf x).map V.str))) a (linesOf x) := upd_same
    have s0 := same_new (o := .lst ((linesOf x).map V.str)) ha'
    show tSeq _ _ _ _ (upd H a (.lst ((linesOf x).map V.str)))
    generalize upd H a (.lst ((linesOf x).map V.str)) = H0 at ha s0 ⊢
    generalize linesOf x = ls at hlk few hne ha kR kB ⊢
    have hdl : ls.dropLast.length = ls.length - 1 := List.length_dropLast
    have hpos : 0 < ls.length := List.length_pos_iff.mpr hne
    refine ⟨Nat.zero_le _, fun G hG => ?_⟩
    have sG := same_new (o := .lst []) hG
    refine ⟨_, rfl, 1, rfl, -1, rfl, a, _, rfl, SqL.of (ha.same sG), fun p hp => ?_⟩
    have npG : G ≠ p := ptr_ne hp
    rw [cut_but1]
    have sP := sG.trans (same_new (o := .lst (ls.dropLast.map V.str)) hp)
    refine ⟨p, _, rfl, SqL.of upd_same, ?_⟩
    refine for_it (walk_enum (xs := ls.dropLast.map V.str)) (fun i σ H' => ∃ (v3 v4 v5 : Option V) (acc : List V), σ = [some (.str x), some (.ref a), some (.ref G), v3, v4, v5] ∧ FillSt H0 H' G acc ((ls.dropLast.take i).map deedD) ∧ H' p = some (.lst (ls.dropLast.map V.str)) ∧ ∀ l ∈ ls.dropLast.take i, good l = true)
      ⟨none, none, none, [], rfl, ⟨sP, hG, by rw [upd_ne npG]; exact upd_same, by rw [List.take_zero]; exact .nil⟩, upd_same, fun p hp => by rw [List.take_zero] at hp; cases hp⟩ (fun i σ H' _ ⟨_, _, _, _, _, _, h, _⟩ => SqL.of h) ?_ ?_
    · rintro i v σ H2 H3 hi ⟨v3, v4, v5, acc, rfl, c, hp2, hall⟩ ⟨Tt, y1, y2, rfl, hT, rfl, e1, e2⟩
      have e1 := Option.some.inj e1
      subst e1
      rw [List.length_map] at hi
      have hld : ls.dropLast[i]? = some (ls.dropLast[i]) := List.getElem?_eq_getElem hi
      have e3 : y2 = .str (ls.dropLast[i]) := by
        have e2 : (ls.dropLast.map V.str)[i]? = some y2 := e2
        rw [List.getElem?_map, hld] at e2
        exact (Option.some.inj e2).symm
      subst e3
      have hl : ls[i]? = some (ls.dropLast[i]) := by
        rw [← hld, List.getElem?_dropLast, if_pos (by omega)]
      generalize ls.dropLast[i] = l at hld hl hT ⊢
      have hlm : l ∈ ls := List.mem_of_getElem? hl
      have sT := same_new (o := .tup [V.int (i : Nat), V.str l]) hT
      refine ⟨Tt, _, rfl, SqT.of upd_same, rfl, ⟨_, _, rfl, ⟨_, _, rfl, ⟨rfl, ?_⟩⟩⟩⟩
      refine ⟨_, rfl, l, rfl, hlk l hlm, fun v H3 s3 ht => ?_⟩
      have s4 := sT.trans s3
      have e1 := ht.isN
      rw [good_isN] at e1
      refine ⟨_, rfl, rfl, _, rfl, ?_⟩
      rw [e1]
      cases hg : good l with
      | false =>
        refine iteT ⟨_, rfl, _, _, rfl, rfl, mk_read fun d hd => kB (i + 1) (due_bad hall hld hg) d _ (s0.trans (c.same.trans (s4.trans (same_new hd)))) ?_⟩
        rw [upd_same]
        rfl
      | true =>
        refine iteF ⟨_, rfl, .inl ⟨rfl, _, SqL.of (s4 _ _ c.hG)⟩, _, rfl, G, _, _, rfl, rfl, s4 _ _ c.hG, ?_, _, _, _, acc ++ [v], rfl, ?_, ?_, ?_⟩
        · rw [c.tp.length, List.length_map, List.length_take]
          exact Nat.lt_of_le_of_lt (show _ ≤ 30000 by omega) (by decide)
        · rw [take_map_succ hld]
          exact c.push s4 ht
        · rw [upd_ne (Ne.symm npG)]
          exact s4 _ _ hp2
        · intro z hz
          rw [List.take_succ, hld] at hz
          rcases List.mem_append.mp hz with hz | hz
          · exact hall z hz
          · have e : z = l := by simpa using hz
            rw [e, hg]
    · rintro σ H2 ⟨v3, v4, v5, acc, rfl, c, hp2, hall⟩
      rw [List.length_map, List.take_length] at c hall
      refine ⟨_, rfl, 1, rfl, a, _, -1, _, rfl, rfl, SqL.of (ha.same c.same), last_strs hne, rfl, _, rfl, ?_⟩
      rw [strD]
      by_cases ce : ls.getLastD "" = ("" : Str)
      · rw [decide_eq_true ce]
        refine iteF ⟨_, rfl, G, _, rfl, .inl ⟨SqL.of c.hG, fun l hl => kR _ (due_read hall ce) _ _ (s0.trans (c.same.trans (same_new hl))) (.tup upd_same (c.tp.same (same_new hl)))⟩⟩
      · rw [decide_eq_false ce]
        refine iteT ⟨_, rfl, a, _, rfl, .inl (SqL.of (ha.same c.same)), mk_read fun d hd => kB ls.length (due_last hall ce) d _ (s0.trans (c.same.trans (same_new hd))) ?_⟩
        rw [upd_same, List.length_map]
end
end K99

/-! K99X3 -/
set_option Elab.async false
set_option linter.all false
set_option maxRecDepth 100000
set_option maxHeartbeats 2000000
/-! Defs called where an error is handled: which error that is may be told of. -/
namespace K99
open PySem PySem.Spec PyProof.Rows L2 TL L2H HotX

section
variable {P : Program} {w : World} {K : PySem.W.Frag} {mg : Str → Option Value} {base : Heap}
/-- a promise that holds where p is handled -/
structure HasP (P : Program) (w : World) (K : PySem.W.Frag) (mg : Str → Option Value) (base : Heap) (x : Str) (ps : List Str) (k : Nat) (sp : Addr → Value → Option Addr → Sp) : Prop where
  ex : ∃ (f : Addr) (fd : FuncData), mg x = some (.ref f) ∧ PySem.W.keepIn K (.ref f) = true ∧ Binds K fd ps [] ∧ (∀ a c d vs H Q E, sp a c d vs H Q E → vs.length = ps.length) ∧
    ∀ (A : Around) (outer : List Env) (s : Shared) (H : Hp) (us : List Value) (vs : List V) (Q : VK) (p : Addr × Obj) (c : Value) (d : Option Addr), RoomH k A → Hot1 A p → Zc c d p.2 → PinOk outer H s p → Env0 P w K mg base A outer s H → BindsTo s fd ⟨us, []⟩ (ps.zip us) → Vals vs us → sp p.1 c d vs H Q E0 →
      codeAny (model P w) A (.call (.ref f) ⟨us, []⟩) (CR CX0 outer P w H s Q E0) s
theorem Src.hasP {x : Str} {st : Stmt} {N ps : List Str} {k : Nat} {sp : Addr → Value → Option Addr → Sp} (T : Src K mg x st ps) (sc : FnScope N ps (defScope st)) (len : ∀ a c d vs H Q E, sp a c d vs H Q E → vs.length = ps.length)
    (hb : ∀ (f : Addr) (cdv : Value) (A : Around) (outer : List Env) (s : Shared) (H : Hp) (vs : List V) (Q : VK) (p : Addr × Obj) (c : Value) (d : Option Addr), Hot1 A p → Zc c d p.2 → RoomH k (A.deeper (envOfC x (defScope st) s.heap.objs.size f cdv)) → sp p.1 c d vs H Q E0 →
      ∃ t, PSs (cxH CX0 P w K mg base N x (defScope st) f cdv A outer s H E0 p) (defBody st) t ∧ t { nx := fun _ H' => Q .non H', rt := Q } (L2.start N vs) H) : HasP P w K mg base x ps (k + 1) sp := by
  obtain ⟨f, fd, g1, F, g2⟩ := T.ex
  refine ⟨f, fd, g1, F.kp, g2, len, fun A outer s H us vs Q p c d room hot zc pin e0 bind r told => ?_⟩
  obtain ⟨oc, od, kV, doc, pm, an, cdv, ct, osl, rfl, lkF, hcd⟩ := F.ex
  have inK : K.In s.heap := e0.mod.kin.keeps fun b o e => (e0.bs b o e).1
  have free : s.heap.NoLimit := e0.mod.nolimit.keeps fun b o e => (e0.bs b o e).1
  have kinds : ∀ y ∈ ps.zip us, (defScope st).names.lookup y.1 = some .local ∨ ((defScope st).names.lookup y.1 = some .cell ∧ ((cellsFrom (s.heap.objs.size + 1) (defScope st).names []).lookup y.1).isSome = true) := by
    rintro ⟨n, v⟩ hy
    exact (sc.par n (List.of_mem_zip hy).1).imp id fun q => ⟨q, PySem.W.cellsFrom_some _ _ _ (.inl q)⟩
  refine codeAny_call_function room.depth (inK _ _ lkF) rfl sc.co sc.gen rfl (PySem.W.codeRec_of inK hcd) (bind _ _ _ _ (wpAny_newFunctionEnv_cells sc.kind kinds fun env he s1 new1 => ?_))
  subst he
  refine ⟨free.keeps new1.toInCall.keep, codeAny_func ?_⟩
  obtain ⟨t, rule, read⟩ := hb f cdv A outer s H vs Q p c d hot zc (room.deeper _) told
  have I := inv_startH (CX := CX0) (E := E0) sc pin e0 (len _ _ _ vs H Q E0 told) r new1
  refine wpAny_mono (rule.run [] s1 _ H _ I read) (fun fl s2 out => ?_) fun e s2 out => out
  cases fl with
  | ret u =>
    obtain ⟨v, σ2, H2, J, rv, q⟩ := out
    exact ⟨v, H2, J.os, J.bare, J.base, J.hok, rv, q⟩
  | next =>
    obtain ⟨σ2, H2, J, q⟩ := out
    exact ⟨.non, H2, J.os, J.bare, J.base, J.hok, rfl, q⟩
  | brk => exact out.elim fun _ z => z.elim fun _ z => z.2.elim
  | cont => exact out.elim fun _ z => z.elim fun _ z => z.2.elim
end
section
variable {X : Cx} {x : Str} {ps : List Str} {k : Nat} {sp : Addr → Value → Option Addr → Sp} {e : Expr} {es : List Expr} {t : TA} {q pos : Pos} {p : Addr × Obj}
def tCallP (sp : Sp) (t : TA) : TE := fun σ H Q => t σ H fun vs H1 => sp vs H1 Q E0
theorem pe_hasP {c : Value} {d : Option Addr} (h : HasP X.prog X.w X.K X.mg X.base x ps k sp) (hr : RoomH k X.A) (hot : Hot1 X.A p) (zc : Zc c d p.2) (hp : p ∈ X.pn) (ha : PA X (e :: es) t) (hg : Gl X x := by rfl) (hd : (x == ("__debug__" : Str)) = false := by decide)
    (he : starEach (e :: es) X.env = (false, eval e X.env) :: starEach es X.env := by rfl) (hpl : (backTo pos (starEach es X.env)).any (·.1) = false := by rfl) : PE X (.Call (.Name x q) (e :: es) [] pos) (tCallP (sp p.1 c d) t) := by
  obtain ⟨f, fd, g1, g2, g3, len, run⟩ := h.ex
  refine ⟨fun pins s σ H Q I0 h0 => wpAny_Call_Name_kw (ld_glob I0 hg g1 (PySem.W.callWith_K (h₀ := X.base) I0.ok.mod.kin g2 (thn (ha.run pos pins s σ H _ I0 h0) fun us s1 ⟨vs, H1, I, r, told⟩ => ⟨I.kIn, ?_⟩) he hpl) hd)⟩
  have hl : us.length = ps.length := by
    rw [← r.length]
    exact len _ _ _ _ _ _ _ told
  have b := g3 s1 us I.kIn (by rw [List.append_nil]; exact hl)
  rw [List.append_nil] at b
  have at1 := I.pin p (List.mem_append_left _ hp)
  have pin : PinOk X.stack H1 s1 p := ⟨at1.1, at1.2.1, fun hm => (List.mem_cons.mp (I.stkSub p.1 hm)).elim at1.2.2.1 at1.2.2.2.1, at1.2.2.2.2⟩
  refine wpAny_call (codeAny_mono (run X.A X.stack s1 H1 us vs Q p c d hr hot zc pin I.env0 b r told) fun r s2 out => ?_)
  cases r with
  | error er => exact (show False from out).elim
  | ok fl =>
    cases fl with
    | ret u => exact I.after out
    | next => exact (show False from out).elim
    | brk => exact (show False from out).elim
    | cont => exact (show False from out).elim
theorem pe_hasA {a : Addr} {oe : Obj} {c : Value} {d : Option Addr} (h : HasP X.prog X.w X.K X.mg X.base x ps k sp) (hr : RoomH k X.A) (hot : Hot1 X.A (a, oe)) (zc : Zc c d oe) (hp : (a, oe) ∈ X.pn) (ha : PA X (e :: es) t) (hg : Gl X x := by rfl) (hd : (x == ("__debug__" : Str)) = false := by decide)
    (he : starEach (e :: es) X.env = (false, eval e X.env) :: starEach es X.env := by rfl) (hpl : (backTo pos (starEach es X.env)).any (·.1) = false := by rfl) : PE X (.Call (.Name x q) (e :: es) [] pos) (tCallP (sp a c d) t) :=
  pe_hasP (p := (a, oe)) h hr hot zc hp ha hg hd he hpl
/-- isinstance(e, c) of the error p of the class C, its dict at d -/
def rIsP (K : PySem.W.Frag) (C : Addr) (p : Addr × Obj) (d : Addr) : List V → Hp → VK → Prop := fun xs H Q =>
  ∃ (c : V) (cv : Value) (b : Bool), xs = [.ref p.1, c] ∧ (∀ u, RelV c u → u = cv) ∧ PySem.W.kitOne K (.ref C) cv = some b ∧ (∃ fs, H d = some (.xd fs)) ∧ Q (.bl b) H
theorem call_isP {C d : Addr} (T : ExcC X.K C) (hp : p ∈ X.pn) (hz : Zc (.ref C) (some d) p.2) (hf : ∃ vs, p.2.data = .fields vs) : CallR X (.builtin "isinstance") (rIsP X.K C p d) := by
  intro pins s σ H xs us Q I r told
  obtain ⟨c, cv, b, rfl, only, ans, ⟨fs, hd⟩, q⟩ := told
  obtain ⟨u0, r0, e0, rfl, t0⟩ : ∃ u0 r0, RelV (.ref p.1) u0 ∧ us = [u0, r0] ∧ RelV c r0 := by
    cases r with
    | cons a1 rr =>
      cases rr with
      | cons a2 rr =>
        cases rr
        exact ⟨_, _, a1, rfl, a2⟩
  obtain rfl : u0 = Value.ref p.1 := e0
  obtain rfl := only _ t0
  obtain ⟨mA, hns, _⟩ := (show ObjOk X.prog X.w H s.heap d (.xd fs) from I.hok d _ hd)
  obtain ⟨od, ho, _⟩ := lookIn_ns hns
  obtain ⟨vs, hv⟩ := hf
  have J : PySem.W.InstAt s.heap p.1 p.2 C (some od) := ⟨(I.pin p (List.mem_append_left _ hp)).1, hz.1, by unfold PySem.W.notCls; rw [hv] <;> rfl, by rw [hz.2]; exact ho⟩
  have cl : (PySem.W.clsIn X.K C).isSome = true := by
    obtain ⟨cd, hc, _⟩ := PySem.W.any_some T.hd
    rw [hc]
    rfl
  exact PySem.W.kia_one (PySem.W.kitx_exc cl T.hg T.hk T.hs T.ha T.hn T.ht T.hm) I.kIn J ans (fun z => nomatch z) fun tk => ⟨.bl b, H, I.kept (t' := tk) fun _ _ z => z, rfl, q⟩
end
end K99

/-! K99X4 -/
set_option Elab.async false
set_option linter.all false
set_option maxRecDepth 100000
set_option maxHeartbeats 2000000
/-! A list comprehension where an error is handled. -/
namespace K99
open PySem PySem.Spec PyProof.Rows L2 TL L2H HotX
section
variable {prog : Program} {w : World} {A : Around} {E : Value → Shared → Prop} {s : Shared}
/-- behind a list's last item, an error being handled -/
theorem next_end_hot {it l x1 : Addr} {i : Nat} {items : Array Value} {Q : Option Value → Shared → Prop} (hot : HotAt A x1 s.heap) (away : x1 ≠ it) (hit : s.heap.IsListIter it l i) (hl : s.heap.IsList l items) (none1 : items[i]? = none)
    (hQ : ∀ h', (∀ b o, b ≠ it → s.heap.get? b = some o → h'.get? b = some o) → Q none { s with heap := h' }) : wpAny (model prog w) A (pyNext (.ref it)) Q E s := by
  obtain ⟨o, at1, cls1, data1⟩ := id hit
  obtain ⟨ol, at2, _, nl, data2⟩ := hl
  obtain ⟨hA, o1, vs1, h1, d1, c1⟩ := hot
  unfold pyNext
  refine wpAny_bind (wpAny_attempt (wpAny_callSpecial?_slot (name := Str.ofString "__next__") hit.typeIs slot_listiter_next (wpAny_call_entry slot_listiter_next hit.typeIs entry_listiter_next ?_ (args_listiter_next _))))
  show wpAny _ _ (field (.ref it) 0 >>= _) _ _ _
  refine wpAny_bind (wpAny_field at1 data1 (x := .ref l) rfl ?_)
  show wpAny _ _ (if (Value.ref l == Value.none) = true then _ else _) _ _ _
  rw [if_neg (show ¬ ((Value.ref l == Value.none) = true) from fun z => Bool.noConfusion z)]
  show wpAny _ _ (field (.ref it) 1 >>= _) _ _ _
  refine wpAny_bind (wpAny_field at1 data1 (x := .int i 0) rfl ?_)
  show wpAny _ _ (seqItems? (.ref l) >>= _) _ _ _
  refine wpAny_bind (wpAny_seqItems at2 data2 ?_)
  simp only [Int.toNat_natCast, none1]
  refine wpAny_bind (wpAny_rule (wpAny_bind (wpAny_setField at1 data1 (by simp) ?_)))
  show wpAny _ _ (newExc (.type "StopIteration") [] >>= _) _ _ _
  refine wpAny_bind ?_
  simp only [newExc, newTuple]
  refine wpAny_bind (wpAny_newObj_type ?_ (by size_fits))
  refine wpAny_bind (m := firstArgMember _ _) (wpAny_of_eq (a := Value.none) (by first | rfl | (simp only [firstArgMember]; rfl)) (wpAny_newObj_type ?_ (by size_fits)))
  have h1' : (s.heap.update it (Obj.mapFields (·.setIfInBounds 0 Value.none))).get? x1 = some o1 := (Heap.get?_update_other _ _ (Ne.symm away)).trans h1
  refine raiseNew_hot ⟨hA, o1, vs1, Heap.get?_push_of_some _ (Heap.get?_push_of_some _ h1'), d1, c1⟩ (Nat.ne_of_lt (Heap.lt_size (Heap.get?_push_of_some _ h1'))) (Heap.get?_push_size _ rfl) rfl (by first | (simp; done) | (simp; omega)) ?_
  refine wpAny_bind (wpAny_isInstance (T := "StopIteration") (b := true) ⟨_, Heap.get?_update_self _ (Heap.get?_push_size _ rfl) rfl, rfl⟩ isSubtype_stop (wpAny_pure (hQ _ fun b o hb e => ?_)))
  have e' : (s.heap.update it (Obj.mapFields (·.setIfInBounds 0 Value.none))).get? b = some o := (Heap.get?_update_other _ _ (Ne.symm hb)).trans e
  rw [Heap.get?_update_other _ _ (Nat.ne_of_gt (Heap.lt_size (Heap.get?_push_of_some _ e')))]
  exact Heap.get?_push_of_some _ (Heap.get?_push_of_some _ e')
end
section
variable {X : Cx} {elt tg iter : Expr} {scope : Scope} {own : List (Str × Nat)} {pos : Pos} {ti te : TE} {g : TG} {p : Addr × Obj}
/-- [elt for tg in iter] over the list at a: each element f of its item, no trace left -/
def tLcHot (ti : TE) (g : TG) (te : TE) (vs : List Nat) : TE := fun σ H Q => ti σ H fun v H1 => ∃ (a : Addr) (xs : List V) (f : V → V), v = .ref a ∧ H1 a = some (.lst xs) ∧ (∀ D, H1 D = none → Q (.ref D) (upd H1 D (.lst (xs.map f)))) ∧
  ∀ x H2, x ∈ xs → g x (wipe σ vs) H2 fun σ2 H3 => wipe σ2 vs = wipe σ vs ∧ H3 = H2 ∧ ∀ Qe : VK, Qe (f x) H3 → te σ2 H3 Qe
theorem pe_lcHot (hot : Hot1 X.A p) (hp : p ∈ X.pn) (hN : X.N.Nodup) (hi : PE X iter ti) (ok : BlkOk X.N X.env.scope scope own) (hg : ∀ (s : Shared) (H : Hp) (C : Addr) (cl : List (Str × Addr)) (fp : List Addr), PG (X.blk s H scope (compEnvC scope cl C X.env) fp) tg g)
    (hel : ∀ (s : Shared) (H : Hp) (C : Addr) (cl : List (Str × Addr)) (fp : List Addr), PE (X.blk s H scope (compEnvC scope cl C X.env) fp) elt te) (hs : ∀ x, foldedSetIterable iter X.env x = pure x := by intro _; rfl) :
    PE X (.ListComp elt [⟨tg, iter, [], 0⟩] scope pos) (tLcHot ti g te (own.map (·.2))) := by
  refine ⟨fun pins s σ H Q I h => ?_⟩
  rw [eval_ListComp]
  have out1 : ∀ y ∈ scope.names, y.2 = .free → ∃ c, X.env.cells.lookup y.1 = some c := fun y hy e => (ok.free y hy e).elim (fun k => I.ok.has _ (.inl k)) fun k => I.ok.has _ (.inr k)
  refine wpAny_comprehension_free (use := none) rfl hs (closure_ok out1) ok.kind (fun y hy e => by rw [ok.uniq y hy, e]) (thn (hi.run pins s σ H _ I h) fun xv s1 ⟨v, H1, I1, r1, a, xs, f, ev, hS, fin, elem⟩ => ?_)
  subst ev
  obtain rfl : xv = Value.ref a := r1
  obtain ⟨its, rv, pl, hz⟩ := I1.list (SqL.of hS)
  refine wpAny_pyIter_list pl.isList ?_
  have I2 : Inv X pins σ H1 { s1 with heap := s1.heap.push { cls := .type "list_iterator", data := .fields #[.ref a, .int 0 0] } } := I1.kept (t' := s1.toks) fun b o e => Heap.get?_push_of_some _ e
  have st0 : (s1.heap.push { cls := .type "list_iterator", data := .fields #[.ref a, .int 0 0] }).IsListIter s1.heap.objs.size a 0 := ⟨_, Heap.get?_push_size _ rfl, rfl, rfl⟩
  have free2 : FpOk X pins H1 s1.heap.objs.size := I1.fpOk (Nat.le_refl _) (I1.hok.fresh (Nat.le_refl _))
  have np : p.1 ≠ s1.heap.objs.size := Nat.ne_of_lt (Heap.lt_size (I1.pin p (List.mem_append_left _ hp)).1)
  have ltI : s1.heap.objs.size < (s1.heap.push { cls := .type "list_iterator", data := .fields #[.ref a, .int 0 0] }).objs.size := by
    rw [Heap.size_push]
    exact Nat.lt_succ_self _
  generalize s1.heap.objs.size = it at st0 free2 np ltI ⊢
  generalize hs2 : ({ s1 with heap := s1.heap.push { cls := .type "list_iterator", data := .fields #[.ref a, .int 0 0] } } : Shared) = s2 at I2 ⊢
  have eh2 : s1.heap.push { cls := .type "list_iterator", data := .fields #[.ref a, .int 0 0] } = s2.heap := by rw [← hs2]
  rw [eh2] at st0 ltI
  refine wpAny_newObj_type (newEnv_comp ?_) (by show 0 ≤ sizeLine; exact Nat.zero_le _)
  have newD : H1 s2.heap.objs.size = none := I2.hok.fresh (Nat.le_refl _)
  have ne1 : s2.heap.objs.size ≠ it := Nat.ne_of_gt ltI
  have I3 : Inv X pins σ (upd H1 s2.heap.objs.size (.lst [])) { s2 with heap := s2.heap.push { cls := .type "list", data := .seq ([] : List Value).toArray } } := I2.laid (t' := s2.toks) (fun b o e => Heap.get?_push_of_some _ e) (Nat.le_refl _) ⟨Nat.zero_le _, [], 0, .nil, Heap.get?_push_size _ rfl⟩
  have st3 : (s2.heap.push { cls := .type "list", data := .seq ([] : List Value).toArray }).IsListIter it a 0 := st0.at fun o e => Heap.get?_push_of_some _ e
  have ltI3 : it < (s2.heap.push { cls := .type "list", data := .seq ([] : List Value).toArray }).objs.size := by
    rw [Heap.size_push]
    exact Nat.lt_succ_of_lt ltI
  have na : a ≠ s2.heap.objs.size := ne_of_none hS newD
  have free3 : ∀ b ∈ [it], FpOk X pins (upd H1 s2.heap.objs.size (.lst [])) b ∧ b < (s2.heap.push { cls := .type "list", data := .seq ([] : List Value).toArray }).objs.size := fun b hb => by
    rw [List.mem_singleton.mp hb]
    exact ⟨⟨by rw [upd_ne (Ne.symm ne1)]; exact free2.1, free2.2⟩, ltI3⟩
  generalize s2.heap.objs.size = D at newD ne1 I3 na free3 ⊢
  generalize hs3 : ({ s2 with heap := s2.heap.push { cls := .type "list", data := .seq ([] : List Value).toArray } } : Shared) = s3 at I3 ⊢
  have eh3 : s2.heap.push { cls := .type "list", data := .seq ([] : List Value).toArray } = s3.heap := by rw [← hs3]
  rw [eh3] at st3 free3
  have I4 := block_start I3 ok hN free3
  have pg := hg s3 (upd H1 D (.lst [])) s3.heap.objs.size (cellsFrom (s3.heap.objs.size + 1) scope.names (cloFrom X.env.cells scope.names [])) [it]
  have pe := hel s3 (upd H1 D (.lst [])) s3.heap.objs.size (cellsFrom (s3.heap.objs.size + 1) scope.names (cloFrom X.env.cells scope.names [])) [it]
  show codeAny _ _ (.compStart (.ListComp elt [⟨tg, iter, [], 0⟩] scope pos) 0 (.ref it) (.ref D) (compEnvC scope (cellsFrom (s3.heap.objs.size + 1) scope.names (cloFrom X.env.cells scope.names [])) s3.heap.objs.size X.env)) (compPost (model X.prog X.w) X.A X.xe none _ (.ref D) s3.heap.objs.size)
    { s3 with heap := pushCells (s3.heap.push { cls := .type "dict", data := .dict #[] }) scope.names }
  generalize hce : compEnvC scope (cellsFrom (s3.heap.objs.size + 1) scope.names (cloFrom X.env.cells scope.names [])) s3.heap.objs.size X.env = ce at I4 pg pe ⊢
  have cL : ce.locals = s3.heap.objs.size := by rw [← hce]; rfl
  generalize eS4 : ({ s3 with heap := pushCells (s3.heap.push { cls := .type "dict", data := .dict #[] }) scope.names } : Shared) = s4 at I4 ⊢
  have st4 : s4.heap.IsListIter it a 0 := st3.at fun o e => by
    rw [← eS4]
    exact pushCells_keeps _ _ _ _ (Heap.get?_push_of_some _ e)
  have own1 : ∀ {σ' : L2.St} {H' : Hp} {s' : Shared}, Inv (X.blk s3 (upd H1 D (.lst [])) scope ce [it]) [] σ' H' s' → H' it = none → FpOk (X.blk s3 (upd H1 D (.lst [])) scope ce [it]) [] H' it := fun {σ' H' s'} I' hn =>
    have m : it ∈ [it] := List.mem_singleton.mpr rfl
    ⟨hn, (I'.ok.exf it m).1, I'.ok.exfs it m, .inl m, fun x c e => (I'.ok.exf it m).2 x c e, fun p hp => absurd (show p ∈ ([] : List (Addr × Obj)) ++ [] from hp) (by simp)⟩
  have hot3 : ∀ {σ' : L2.St} {H' : Hp} {s' : Shared}, Inv (X.blk s3 (upd H1 D (.lst [])) scope ce [it]) [] σ' H' s' → HotAt X.A p.1 s'.heap := fun {σ' H' s'} I' => by
    obtain ⟨hh, v1, e1, c1⟩ := hot
    have at3 := I3.pin p (List.mem_append_left _ hp)
    exact ⟨hh, p.2, v1, I'.base.keep p.1 p.2 at3.1 at3.2.1 (fun hm => (List.mem_cons.mp (I3.stkSub p.1 hm)).elim at3.2.2.1 at3.2.2.2.1) (fun hm => np (List.mem_singleton.mp hm)), e1, c1⟩
  have loop : codeAny (model X.prog X.w) X.A (.compLoop (.ListComp elt [⟨tg, iter, [], 0⟩] scope pos) 0 (.ref it) (.ref D) ce) (compPost (model X.prog X.w) X.A X.xe none (EP X pins σ Q) (.ref D) s3.heap.objs.size) s4 := by
    refine compLoop_any (fun n s' => ∃ i, Inv (X.blk s3 (upd H1 D (.lst [])) scope ce [it]) [] (wipe σ (own.map (·.2))) (upd H1 D (.lst ((xs.take i).map f))) s' ∧ s'.heap.IsListIter it a i ∧ i ≤ xs.length ∧ n = xs.length - i) ?_ xs.length ⟨0, I4, st4, Nat.zero_le _, rfl⟩
    rintro n s5 ⟨i, I5, st5, le5, en⟩
    have itn : ∀ l : List V, (upd H1 D (.lst l)) it = none := fun l => by
      rw [upd_ne (Ne.symm ne1)]
      exact free2.1
    have h5a : (upd H1 D (.lst ((xs.take i).map f))) a = some (.lst xs) := by
      rw [upd_ne na]
      exact hS
    obtain ⟨its5, rv5, pl5, _⟩ := I5.list (SqL.of h5a)
    obtain ⟨f0, f1, f2, f3, f4, f5⟩ := own1 I5 (itn _)
    by_cases lt5 : i < xs.length
    · have hx : xs[i]? = some (xs[i]) := List.getElem?_eq_getElem lt5
      have memx : xs[i] ∈ xs := List.getElem_mem _
      obtain ⟨u, hu, ru⟩ := rv5.get hx
      generalize xs[i] = x at hx memx ru
      refine wpAny_pyNext_list_item st5 pl5.isList (x := u) (by simpa using hu) fun h' st' sb => ?_
      have I6 : Inv (X.blk s3 (upd H1 D (.lst [])) scope ce [it]) [] (wipe σ (own.map (·.2))) (upd H1 D (.lst ((xs.take i).map f))) { s5 with heap := h' } := I5.turned (t' := s5.toks) (fun b o hb e => (sb.2 b hb).trans e) f0 f1 f3 f4 f5
      obtain ⟨oi, ei, ci, di⟩ := id st'
      refine go_of (s := { s5 with heap := h' }) ei ci di (by decide) ?_
      have I7 := I6.pinned (fp := [it]) (fun b hb => by rw [List.mem_singleton.mp hb]; exact own1 I6 (itn _)) (fun b hb => by
        rw [List.mem_singleton.mp hb]
        exact ⟨oi, ei, fun v z => by rw [di] at z; cases z⟩)
      refine thnF (pg.run _ _ _ _ x u _ I7 ru (elem x _ memx)) fun _ s8 ⟨σ8, H8, I8, w8, eq8, give⟩ => ?_
      refine wpAny_tests_nil ?_
      rw [if_pos rfl]
      subst eq8
      refine thnF (pe.run _ s8 σ8 _ _ I8 (give (fun y H' => y = f x ∧ H' = upd H1 D (.lst ((xs.take i).map f))) ⟨rfl, rfl⟩)) fun z s10 ⟨yv, H10, I10, r10, ey, eH⟩ => ?_
      subst ey
      subst eH
      have short : ((xs.take i).map f).length < sizeLine := by
        rw [List.length_map, List.length_take]
        omega
      refine app_ok (X := X.blk s3 (upd H1 D (.lst [])) scope ce [it]) I10 upd_same short r10 fun s11 I11 => ⟨xs.length - (i + 1), by omega, i + 1, ?_, ?_, lt5, rfl⟩
      · have e1 : upd (upd H1 D (.lst ((xs.take i).map f))) D (.lst ((xs.take i).map f ++ [f x])) = upd H1 D (.lst ((xs.take (i + 1)).map f)) := by
          rw [take_map_succ hx]
          funext b
          by_cases hb : b = D
          · rw [hb, upd_same, upd_same]
          · rw [upd_ne hb, upd_ne hb, upd_ne hb]
        rw [e1] at I11
        have hl : (wipe σ (own.map (·.2))).length = σ8.length := by rw [← w8, wipe_length]
        refine (I11.unpinned (pins := [])).weak hl fun j v e => ?_
        rw [← w8] at e
        exact (wipe_some e).1
      · exact st'.at fun o e => (I11.pin (it, o) (List.mem_append_right _ (List.mem_append_right _ (mem_pinsAt (List.mem_singleton.mpr rfl) e)))).1
    · have e5 : i = xs.length := by omega
      refine next_end_hot (hot3 I5) np st5 pl5.isList (Array.getElem?_eq_none (by have := rv5.length; simp; omega)) fun h' eb => ?_
      have I6 : Inv (X.blk s3 (upd H1 D (.lst [])) scope ce [it]) [] (wipe σ (own.map (·.2))) (upd H1 D (.lst ((xs.take i).map f))) { s5 with heap := h' } := I5.turned (t' := s5.toks) (fun b o hb e => eb b o hb e) f0 f1 f3 f4 f5
      have I7 : Inv X pins σ (upd H1 D (.lst ((xs.take i).map f))) { s5 with heap := h' } := I3.call' (ch := [it]) I6.os I6.base I6.hok I6.bare fun b hb => ⟨(free3 b hb).1.2.2.2.1, (free3 b hb).1.2.1, (free3 b hb).1.2.2.2.2.1, (free3 b hb).1.2.2.2.2.2⟩
      have gone : (upd H1 D (.lst ((xs.take i).map f))) s3.heap.objs.size = none := by
        rw [← cL]
        exact I6.free
      obtain ⟨m, hn, _⟩ := I6.loc
      have hn : Heap.Ns h' ce.locals m := hn
      rw [cL] at hn
      have own2 := I3.fpOk (Nat.le_refl _) gone
      refine ⟨m, hn, fun h'' sb => ⟨.ref D, _, I7.turned (t' := s5.toks) (fun b o hb e => (sb.2 b hb).trans e) own2.1 own2.2.1 own2.2.2.2.1 own2.2.2.2.2.1 own2.2.2.2.2.2, rfl, ?_⟩⟩
      rw [e5, List.take_length]
      exact fin D newD
  exact codeAny_compStart_list loop (wpAny_pyIter_listiter st4 loop)
end
end K99

/-! K99X5 -/
set_option Elab.async false
set_option linter.all false
set_option maxRecDepth 100000
set_option maxHeartbeats 2000000
namespace K99
open PySem L2 TL L2H
open PyProof.Rows (envOfC)
theorem roomMark {j k : Nat} {A : Around} {h : Option Value} (r : Room k A) (hj : j ≤ k) : RoomH j (A.mark h) := ⟨(r.mono hj).dp, (r.mono hj).un⟩
def marksB : List Bool := [false, false, true, false, false, false, false, false, false]
def marksV : List V := marksB.map V.bl
section
variable {P : Program} {w : World} {K : PySem.W.Frag} {mg : Str → Option Value} {base : Heap} {D CE BT fI : Addr}
abbrev sLawMarks : Stmt := top 52
theorem scLawMarks : FnScope ["_law_e"] ["_law_e"] (defScope sLawMarks) := ⟨rfl, rfl, rfl, by decide +kernel, rfl, by decide +kernel, by decide +kernel⟩
def spMarks (BT : Addr) : Addr → Value → Option Addr → Sp := fun a c d0 vs H Q _ => ∃ (d : Addr) (fs : List (Str × V)), c = .ref BT ∧ d0 = some d ∧ vs = [.ref a] ∧ H d = some (.xd fs) ∧ ∀ (q : Addr) (H' : Hp), Same H H' → H' q = some (.lst marksV) → Q (.ref q) H'
theorem has_marks (T : Txt K w mg D) (TX : TxtX K mg CE BT fI) : HasP P w K mg base "_law_marks" ["_law_e"] 1 (spMarks BT) := by
  refine T.d__law_marks.hasP scLawMarks (fun a c d vs H Q E h => ?_) (fun f cdv A outer s H vs Q p c d hot zc hr h => ?_)
  · obtain ⟨d, fs, _, _, rfl, _⟩ := h
    rfl
  · obtain ⟨d, fs, rfl, rfl, rfl, hd, k⟩ := h
    obtain ⟨C1, g1, i1⟩ := TX.cInvalidWeb
    obtain ⟨C2, g2, i2⟩ := TX.cNotSound
    obtain ⟨C3, g3, i3⟩ := TX.cBadText
    obtain ⟨C4, g4, i4⟩ := TX.cNoHouse
    obtain ⟨C5, g5, i5⟩ := TX.cNoContract
    obtain ⟨C6, g6, i6⟩ := TX.cNoLetter
    obtain ⟨C7, g7, i7⟩ := TX.cNothingToUndo
    obtain ⟨C8, g8, i8⟩ := TX.cNothingToRedo
    have hf : ∃ ws, p.2.data = .fields ws := hot.2.elim fun ws z => ⟨ws, z.1⟩
    have mem : p ∈ (cxH CX0 P w K mg base ["_law_e"] "_law_marks" (defScope sLawMarks) f cdv A outer s H E0 p).pn := List.mem_singleton.mpr rfl
    have ask := call_isP (X := cxH CX0 P w K mg base ["_law_e"] "_law_marks" (defScope sLawMarks) f cdv A outer s H E0 p) TX.isC mem zc hf
    have one : ∀ {x : Str} {C : Addr}, mg x = some (.ref C) → ∃ u, mg x = some u ∧ RelV (.ref C) u := fun h => ⟨_, h, rfl⟩
    refine ⟨_, (pss_one (ps_ret (pe_lst (pa_cons (pe_callB ask (by rfl) T.isinstance (by decide +kernel) (pa_cons (pv 0) (pa_cons (pe_globE (one g1)) pa_nil))) (pa_cons (pe_callB ask (by rfl) T.isinstance (by decide +kernel) (pa_cons (pv 0) (pa_cons (pe_globE (one g2)) pa_nil))) (pa_cons (pe_callB ask (by rfl) T.isinstance (by decide +kernel) (pa_cons (pv 0) (pa_cons (pe_globE (one g3)) pa_nil))) (pa_cons (pe_callB ask (by rfl) T.isinstance (by decide +kernel) (pa_cons (pv 0) (pa_cons (pe_globE (one g4)) pa_nil))) (pa_cons (pe_callB ask (by rfl) T.isinstance (by decide +kernel) (pa_cons (pv 0) (pa_cons (pe_globE (one g5)) pa_nil))) (pa_cons (pe_callB ask (by rfl) T.isinstance (by decide +kernel) (pa_cons (pv 0) (pa_cons (pe_globE (one g6)) pa_nil))) (pa_cons (pe_callB ask (by rfl) T.isinstance (by decide +kernel) (pa_cons (pv 0) (pa_cons (pe_globE (one g7)) pa_nil))) (pa_cons (pe_callB ask (by rfl) T.isinstance (by decide +kernel) (pa_cons (pv 0) (pa_cons (pe_globE (one g8)) pa_nil))) (pa_cons (pe_not (pe_callB ask (by rfl) T.isinstance (by decide +kernel) (pa_cons (pv 0) (pa_cons (pe_bltn (v := .ty "ValueError") (by rfl) T.ValueError (by decide +kernel) rfl) pa_nil)))) pa_nil)))))))))))), ?_⟩
    refine ⟨_, rfl, .ref C1, .ref C1, false, rfl, fun _ h => h, i1, ⟨fs, hd⟩, _, rfl, .ref C2, .ref C2, false, rfl, fun _ h => h, i2, ⟨fs, hd⟩, _, rfl, .ref C3, .ref C3, true, rfl, fun _ h => h, i3, ⟨fs, hd⟩, _, rfl, .ref C4, .ref C4, false, rfl, fun _ h => h, i4, ⟨fs, hd⟩,
      _, rfl, .ref C5, .ref C5, false, rfl, fun _ h => h, i5, ⟨fs, hd⟩, _, rfl, .ref C6, .ref C6, false, rfl, fun _ h => h, i6, ⟨fs, hd⟩, _, rfl, .ref C7, .ref C7, false, rfl, fun _ h => h, i7, ⟨fs, hd⟩, _, rfl, .ref C8, .ref C8, false, rfl, fun _ h => h, i8, ⟨fs, hd⟩, _, rfl, .ty "ValueError", .type "ValueError", true, rfl, fun _ h => h, TX.kVE, ⟨fs, hd⟩, true, rfl, ?_⟩
    refine ⟨by show 9 ≤ sizeLine; decide, fun q hq => k q _ (same_new hq) ?_⟩
    exact upd_same
abbrev sLawDue : Stmt := top 46
theorem scLawDue : FnScope ["_law_name", "_law_names", "_law_other"] ["_law_name"] (defScope sLawDue) := ⟨rfl, rfl, rfl, by decide +kernel, rfl, by decide +kernel, by decide +kernel⟩
def spDueN : Addr → Value → Option Addr → Sp := fun _ _ _ vs H Q _ => vs = [.str "BadText"] ∧ ∀ (q : Addr) (H' : Hp), Same H H' → H' q = some (.lst marksV) → Q (.ref q) H'
theorem has_due (T : Txt K w mg D) : HasP P w K mg base "_law_due" ["_law_name"] 1 spDueN := by
  refine T.d__law_due.hasP scLawDue (fun a c d vs H Q E h => ?_) (fun f cdv A outer s H vs Q p c d hot zc hr h => ?_)
  · obtain ⟨rfl, _⟩ := h
    rfl
  · obtain ⟨rfl, k⟩ := h
    have mem : p ∈ (cxH CX0 P w K mg base ["_law_name", "_law_names", "_law_other"] "_law_due" (defScope sLawDue) f cdv A outer s H E0 p).pn := List.mem_singleton.mpr rfl
    refine ⟨_, (pss_cons (ps_set (i := 1) scLawDue.nd rfl (by first | exact Or.inl rfl | exact Or.inr rfl) (pe_lst (pa_cons pe_str (pa_cons pe_str (pa_cons pe_str (pa_cons pe_str (pa_cons pe_str (pa_cons pe_str (pa_cons pe_str (pa_cons pe_str pa_nil))))))))))
      (pss_one (ps_ret (pe_lcHot (own := [("_law_other", 2)]) hot mem scLawDue.nd ((pe_op op_cat (pv 1) (pe_lst (pa_cons pe_str pa_nil)))) (blkOk_by (own := [("_law_other", 2)]) (N := ["_law_name", "_law_names", "_law_other"]) (sc := defScope sLawDue) (by decide +kernel)) (fun _ _ _ _ _ => pg_name (i := 2) scLawDue.nd rfl (Or.inl rfl)) (fun _ _ _ _ _ => (pe_cmpR op_eq (pv 2) (pv 0) (nomark _))))))), ?_⟩
    refine ⟨by show 8 ≤ sizeLine; decide, fun a ha => ⟨_, rfl, by show 1 ≤ sizeLine; decide, fun b hb => ⟨a, b, _, _, rfl, rfl, (upd_ne (ptr_ne hb)).trans upd_same, upd_same, by show 9 ≤ sizeLine; decide, fun c hc => ?_⟩⟩⟩
    · refine ⟨c, _, fun v => .bl (decide (v = .str "BadText")), rfl, upd_same, fun q hq => k q _ ?_ upd_same, fun x H2 hx => ⟨rfl, rfl, fun Qe he => ?_⟩⟩
      · exact (same_new ha).trans ((same_new hb).trans ((same_new hc).trans (same_new hq)))
      · have hz : ∃ z : Str, x = .str z := by
          have hx : x ∈ ([V.str "InvalidWeb", .str "NotSound", .str "BadText", .str "NoHouse", .str "NoContract", .str "NoLetter", .str "NothingToUndo", .str "NothingToRedo", .str "none"] : List V) := hx
          simp only [List.mem_cons, List.not_mem_nil, or_false] at hx
          rcases hx with e | e | e | e | e | e | e | e | e <;> exact ⟨_, e⟩
        obtain ⟨z, rfl⟩ := hz
        exact ⟨_, rfl, _, rfl, rfl, he⟩
end
end K99

/-! K99X6 -/
set_option Elab.async false
set_option linter.all false
set_option maxRecDepth 100000
set_option maxHeartbeats 2000000
namespace K99
open PySem L2 TL L2H
open PyProof.Rows (envOfC)
theorem takesN0 {X : Cx} : L2N.Takes X (fun _ _ _ _ => False) := fun _ _ x => by
  obtain ⟨_, _, _, _, _, _, _, _, _, _, _, _, _, _, _, _, no⟩ := x
  exact no.elim
theorem due_or (ls : List Str) : (∃ ds, dueD ls = readD ds) ∨ ∃ n, dueD ls = badD n := by
  unfold dueD
  split
  · split
    · exact .inl ⟨_, rfl⟩
    · exact .inr ⟨_, rfl⟩
  · exact .inr ⟨_, rfl⟩
section
variable {P : Program} {w : World} {K : PySem.W.Frag} {mg : Str → Option Value} {base : Heap} {D CE BT fI : Addr}
abbrev sLawRead : Stmt := top 51
theorem scLawRead : FnScope ["_law_text", "_law_e", "_law_marks_here"] ["_law_text"] (defScope sLawRead) := ⟨rfl, rfl, rfl, by decide +kernel, rfl, by decide +kernel, by decide +kernel⟩
/-- what the reading of a text is worth -/
def spReadT : Sp := fun vs H Q _ => ∃ x : Str, vs = [.str x] ∧ LOk x ∧ ∀ (v : V) (H' : Hp), Same H H' → Tp H' v (dueD (linesOf x)) → Q v H'
theorem has__law_read (T : Txt K w mg D) (TX : TxtX K mg CE BT fI) : Has P w K mg base "_law_read" ["_law_text"] 10 spReadT := by
  obtain ⟨fj, fdj, j1, j2, j3, FJ⟩ := has_journal (P := P) (base := base) T TX
  have hM : HasP P w K mg base "_law_marks" ["_law_e"] 1 (spMarks BT) := has_marks T TX
  have hD : HasP P w K mg base "_law_due" ["_law_name"] 1 spDueN := has_due T
  refine T.d__law_read.has scLawRead (fun vs H Q E h => ?_) (fun f cdv A outer s H vs Q E hr h => ?_)
  · obtain ⟨x, rfl, _⟩ := h
    rfl
  · obtain ⟨x, rfl, hx, k⟩ := h
    have hu : (A.deeper (envOfC "_law_read" (defScope sLawRead) s.heap.objs.size f cdv)).units + 64 < cLine := hu64 hr
    refine ⟨_, pss_one (L2N.ps_try_as (i := 1) (n := "_law_e") rfl rfl scLawRead.nd rfl rfl (c := .ref CE) ⟨by rfl, by decide, .inl TX.gCE⟩ takesN0
      (fun W pn xe tk po => pss_one (ps_ret (pe_tup (pa_cons pe_str (pa_cons (pe_callS FJ hr (by rfl) j1 j2 j3 (fun σ => L2N.passAt tk σ) (pa_cons (pv 0) pa_nil)) pa_nil)))))
      (fun a oe cls d pn hz hf => (pss_cons (ps_set (i := 2) scLawRead.nd rfl (by first | exact Or.inl rfl | exact Or.inr rfl) (pe_hasA hM (roomMark hr (by decide)) ⟨rfl, hf.elim fun ws z => ⟨ws, z, hz.2.2 ws z⟩⟩ hz.zc List.mem_cons_self (pa_cons (pv 1) pa_nil)))
      (pss_cons (ps_if (pt_cmpR (show OpR _ _ (rNeD K) from op_neD hu) (pv 2) (pe_hasA hD (roomMark hr (by decide)) ⟨rfl, hf.elim fun ws z => ⟨ws, z, hz.2.2 ws z⟩⟩ hz.zc List.mem_cons_self (pa_cons pe_str pa_nil)) (nomark _)) (pss_one (ps_ret (pe_tup (pa_cons pe_str pa_nil))))
      pss_nil)
      (pss_one (ps_ret (pe_tup (pa_cons pe_str (pa_cons (pe_xf TX.xf TX.noL hz.zc hf (pv 1)) pa_nil))))))))), ?_⟩
    refine ⟨_, rfl, x, rfl, hx, fun ds hds v H1 s1 ht => ?_, fun n hn d H1 s1 hd => ?_⟩
    · refine ⟨by show 2 ≤ sizeLine; decide, fun q hq => k _ _ (s1.trans (same_new hq)) ?_⟩
      rw [hds]
      exact .tup upd_same (.cons (.str _) (.cons (ht.same (same_new hq)) .nil))
    · refine ⟨true, TX.exm, fun _ a ha => ?_, fun z => nomatch z⟩
      refine ⟨_, rfl, d, _, rfl, rfl, rfl, hd, fun q H2 s2 hq => ?_⟩
      refine ⟨_, rfl, rfl, fun q3 H3 s3 hq3 => ?_⟩
      have dl : ∀ {H' : Hp} {q : Addr}, H' q = some (.lst marksV) → Dp K H' (.ref q) (.list (marksB.map PyData.bool)) := fun {H' q} h => .lst (SqL.of h) (.cons (.bl _) (.cons (.bl _) (.cons (.bl _) (.cons (.bl _) (.cons (.bl _) (.cons (.bl _) (.cons (.bl _) (.cons (.bl _) (.cons (.bl _) .nil)))))))))
      refine ⟨_, _, dl (s3 _ _ hq), dl hq3, by decide +kernel, by decide +kernel, _, rfl, ?_⟩
      refine iteFb (by decide +kernel) ?_
      refine ⟨_, rfl, rfl, rfl, d, _, _, rfl, s3 _ _ (s2 _ _ hd), rfl, by show 2 ≤ sizeLine; decide, fun q4 hq4 => k _ _ (s1.trans (s2.trans (s3.trans (same_new hq4)))) ?_⟩
      rw [hn]
      exact .tup upd_same (.cons (.str _) (.cons (.int _) .nil))
end
end K99

/-! K99D1 -/
set_option Elab.async false
set_option linter.all false
set_option maxRecDepth 100000
set_option maxHeartbeats 2000000
/-! The draws: a list that each def shortens; what they make is small. -/
namespace K99
open PySem L2 TL
open PyProof.Rows (envOfC)
/-- all but p stand -/
def SB (p : Addr) (H H' : Hp) : Prop := ∀ b u, b ≠ p → H b = some u → H' b = some u
theorem SB.refl (p : Addr) (H : Hp) : SB p H H := fun _ _ _ h => h
theorem SB.tr {p : Addr} {H H1 H2 : Hp} (a : SB p H H1) (b : SB p H1 H2) : SB p H H2 := fun c u hc h => b c u hc (a c u hc h)
theorem SB.of {p : Addr} {H H' : Hp} (s : Same H H') : SB p H H' := fun b u _ h => s b u h
theorem SB.put {p : Addr} {H : Hp} (o : HO) : SB p H (upd H p o) := fun b u hb h => by
  rw [upd_ne hb]
  exact h
theorem SB.own {p D : Addr} {H0 H : Hp} {o : HO} (s : SB p H0 H) (h : H0 D = none) : SB p H0 (upd H D o) := fun b u hb e => by
  rw [upd_ne (ne_of_none e h)]
  exact s b u hb e
theorem SB.tle {p : Addr} {H H' : Hp} {xs : List V} (s : SB p H H') (h : H p = some (.lst xs)) : Tle H H' := fun b ys e => s b _ (ne_of e h fun z => by cases z) e
/-- the script at a, the draws at p -/
structure Dw (K : PySem.W.Frag) (H : Hp) (a p : Addr) (xs : List Int) : Prop where
  sc : (a ≠ p ∧ SqL K H a (xs.map V.int)) ∨ ∀ H', SqL K H' a (xs.map V.int)
  dr : ∃ ns : List Int, H p = some (.lst (ns.map V.int))
section
variable {K : PySem.W.Frag} {H H' : Hp} {a p : Addr} {xs : List Int}
theorem Dw.sq (d : Dw K H a p xs) : SqL K H a (xs.map V.int) := d.sc.elim (fun h => h.2) fun h => h H
theorem Dw.move (d : Dw K H a p xs) (s : SB p H H') (h : ∃ ns : List Int, H' p = some (.lst (ns.map V.int))) : Dw K H' a p xs := by
  refine ⟨?_, h⟩
  rcases d.sc with ⟨n, e⟩ | e
  · refine .inl ⟨n, ?_⟩
    rcases e with (e | ⟨o, e⟩) | e
    · exact .inl (.inl (s _ _ n e))
    · exact .inl (.inr ⟨o, s _ _ n e⟩)
    · exact .inr e
  · exact .inr e
theorem Dw.same (d : Dw K H a p xs) (s : Same H H') : Dw K H' a p xs := d.move (.of s) (d.dr.elim fun ns h => ⟨ns, s _ _ h⟩)
theorem Dw.tle (d : Dw K H a p xs) (s : SB p H H') : Tle H H' := d.dr.elim fun _ h => s.tle h
theorem Dw.npD {D : Addr} (d : Dw K H a p xs) (h : H D = none) : D ≠ p := fun z => by
  obtain ⟨ns, e⟩ := d.dr
  rw [← z, h] at e
  cases e
end
/-- n turns of a comprehension, each of which may shorten the draws -/
theorem lc_draw {K : PySem.W.Frag} {n : Nat} {lo : Int} {i0 : Nat} {te : TE} {σ : L2.St} {H1 : Hp} {D a p : Addr} {xs : List Int} {Qd : Hp → Prop} (G : Hp → V → Prop) (up : ∀ H H' v, Tle H H' → G H v → G H' v) (d : Dw K H1 a p xs) (hD : H1 D = none) (hn : n ≤ sizeLine)
    (hs : ∀ (i : Nat) (H : Hp) (Q : VK), i < n → Dw K H a p xs → (∀ (y : V) (H4 : Hp), SB p H H4 → Dw K H4 a p xs → G H4 y → Q y H4) → te ((σ.set i0 none).set i0 (some (.int (lo + i)))) H Q)
    (hd : ∀ (H : Hp) (acc : List V), SB p H1 H → Dw K H a p xs → H D = some (.lst acc) → acc.length = n → (∀ y ∈ acc, G H y) → Qd H) :
    ∃ W : Nat → Nat → Hp → Prop, (∃ k0, W 0 k0 (upd H1 D (.lst []))) ∧ ∀ i k0 H, W i k0 H →
      ((Itr lo n).stop i H ∧ Qd H) ∨ ((Itr lo n).go i H ∧ ∃ Nx : Hp → Prop, (∀ H', Nx H' → ∃ k1, k1 < k0 ∧ W (i + 1) k1 H') ∧ ∀ x H', (Itr lo n).yld i H x H' → gName i0 x (wipe σ [i0]) H' fun σ2 H2 => wipe σ2 [i0] = wipe σ [i0] ∧ tYes σ2 H2 fun b H3 =>
        if b = true then te σ2 H3 fun y H4 => ∃ ac, H4 D = some (.lst ac) ∧ ac.length < sizeLine ∧ Nx (upd H4 D (.lst (ac ++ [y]))) else Nx H3) := by
  refine lc_it (walk_range (lo := lo) (n := n)) (fun i H => SB p H1 H ∧ Dw K H a p xs ∧ ∃ acc, H D = some (.lst acc) ∧ acc.length = i ∧ ∀ y ∈ acc, G H y) ⟨(SB.refl _ _).own hD, d.same (same_new hD), [], upd_same, rfl, fun y hy => by simp at hy⟩ (fun _ _ _ _ => trivial) ?_ ?_
  · rintro i x H H' hi ⟨s1, d1, acc, hacc, hl, hg⟩ ⟨rfl, rfl⟩
    refine ⟨?_, ?_⟩
    · show ((σ.set i0 none).set i0 (some _)).set i0 none = σ.set i0 none
      rw [List.set_set, List.set_set]
    · unfold tYes
      dsimp only
      refine iteT (hs i _ _ hi d1 fun y H4 s4 d4 gy => ?_)
      have np := d.npD hD
      have h4 := s4 _ _ np hacc
      have t4 := Tle.lst (o := .lst (acc ++ [y])) h4
      refine ⟨acc, h4, by omega, (s1.tr s4).own hD, ?_, acc ++ [y], upd_same, by rw [List.length_append, hl]; rfl, fun z hz => ?_⟩
      · obtain ⟨ns, e4⟩ := d4.dr
        have sd : ∀ b u, b ≠ D → H4 b = some u → (upd H4 D (.lst (acc ++ [y]))) b = some u := fun b u hb e => by
          rw [upd_ne hb]
          exact e
        refine ⟨?_, ns, sd _ _ (Ne.symm np) e4⟩
        rcases d4.sc with ⟨n1, e⟩ | e
        · refine .inl ⟨n1, ?_⟩
          have nD : a ≠ D ∨ ∃ o its n, K.lookup a = some o ∧ o.cls = .type "list" ∧ o.dict = none ∧ o.data = .seq its n ∧ its.size ≤ sizeLine ∧ Vals (xs.map V.int) its.toList := by
            rcases d.sc with ⟨_, e1⟩ | e1
            · rcases e1 with (e1 | ⟨o, e1⟩) | e1
              · exact .inl (ne_of_none e1 hD)
              · exact .inl (ne_of_none e1 hD)
              · exact .inr e1
            · rcases e1 H1 with (e1 | ⟨o, e1⟩) | e1
              · exact .inl (ne_of_none e1 hD)
              · exact .inl (ne_of_none e1 hD)
              · exact .inr e1
          rcases nD with nD | nD
          · rcases e with (e | ⟨o, e⟩) | e
            · exact .inl (.inl (sd _ _ nD e))
            · exact .inl (.inr ⟨o, sd _ _ nD e⟩)
            · exact .inr e
          · exact .inr nD
        · exact .inr e
      · rcases List.mem_append.mp hz with hz | hz
        · exact up _ _ _ ((d1.tle s4).tr t4) (hg z hz)
        · rw [List.mem_singleton.mp hz]
          exact up _ _ _ t4 gy
  · rintro H ⟨s1, d1, acc, hacc, hl, hg⟩
    exact hd H acc s1 d1 hacc hl hg
def sm (n : Int) : Prop := n.natAbs < 10 ^ 60
/-- a small int -/
def GI : Hp → V → Prop := fun _ v => ∃ n : Int, v = .int n ∧ sm n
/-- a row of up to 30 small ints -/
def GN : Hp → V → Prop := fun H v => ∃ ns : List Int, Tp H v (tupI ns) ∧ ns.length ≤ 30 ∧ ∀ n ∈ ns, sm n
theorem GI.list {H : Hp} : ∀ {acc : List V}, (∀ y ∈ acc, GI H y) → ∃ ns : List Int, acc = ns.map V.int ∧ ∀ n ∈ ns, sm n
  | [], _ => ⟨[], rfl, fun n hn => by simp at hn⟩
  | v :: acc, h => by
    obtain ⟨n, rfl, hn⟩ := h v List.mem_cons_self
    obtain ⟨ns, rfl, hs⟩ := GI.list (acc := acc) fun y hy => h y (List.mem_cons_of_mem _ hy)
    refine ⟨n :: ns, rfl, fun m hm => ?_⟩
    rcases List.mem_cons.mp hm with rfl | hm
    · exact hn
    · exact hs m hm
/-- a def that draws -/
def spDraw (K : PySem.W.Frag) (G : Hp → V → Prop) : Sp := fun vs H Q _ => ∃ (a p : Addr) (xs : List Int), vs = [.ref a, .ref p] ∧ Dw K H a p xs ∧ ∀ (v : V) (H' : Hp), SB p H H' → Dw K H' a p xs → G H' v → Q v H'
section
variable {P : Program} {w : World} {K : PySem.W.Frag} {mg : Str → Option Value} {base : Heap} {D : Addr}
abbrev sLawTake : Stmt := top 29
theorem scLawTake : FnScope ["_law_draws_here", "_law_many"] ["_law_draws_here", "_law_many"] (defScope sLawTake) := ⟨rfl, rfl, rfl, by decide +kernel, rfl, by decide +kernel, by decide +kernel⟩
def spTake : Sp := fun vs H Q _ => ∃ (p : Addr) (ns : List Int) (m : Int), vs = [.ref p, .int m] ∧ H p = some (.lst (ns.map V.int)) ∧ 0 < m ∧ ∀ (n : Int) (H' : Hp), 0 ≤ n → n < m → SB p H H' → (∃ ms : List Int, H' p = some (.lst (ms.map V.int))) → Q (.int n) H'
theorem upd_id {H : Hp} {p : Addr} {o : HO} (h : H p = some o) : upd H p o = H := by
  funext b
  by_cases hb : b = p
  · rw [hb, upd_same, h]
  · rw [upd_ne hb]
theorem has__law_take (T : Txt K w mg D) : Has P w K mg base "_law_take" ["_law_draws_here", "_law_many"] 1 spTake := by
  refine T.d__law_take.has scLawTake (fun vs H Q E h => ?_) (fun f cdv A outer s H vs Q E hr h => ?_)
  · obtain ⟨p, ns, m, rfl, _⟩ := h
    rfl
  · obtain ⟨p, ns, m, rfl, hp, hm, k⟩ := h
    refine ⟨_, (pss_cons (ps_if (pt_cmpR op_eq (pe_callB call_len_seq (by rfl) T.len PySem.boot_len (pa_cons (pv 0) pa_nil)) pe_int (nomark _)) (pss_one (ps_ret pe_int))
      pss_nil)
      (pss_one (ps_ret (pe_op op_mod (pe_callTy call_int1 (by rfl) T.int (by decide +kernel) (pa_cons (pe_bm0 PySem.F.plainAttrs_list PySem.F.slot_list_pop PySem.F.type_list_pop mt_pop (pv 0)) pa_nil)) (pv 1))))), ?_⟩
    refine ⟨_, rfl, p, _, rfl, .inl (SqL.of hp), rfl, _, rfl, ?_⟩
    rw [intEq, List.length_map]
    by_cases c : ns = []
    · subst c
      refine iteT ?_
      exact k 0 H (Int.le_refl _) hm (SB.refl _ _) ⟨[], hp⟩
    · have hl : 0 < ns.length := List.length_pos_iff.mpr c
      rw [decide_eq_false (show ¬ ((ns.length : Nat) : Int) = 0 by omega)]
      refine iteF ⟨_, rfl, .inl ⟨rfl, _, SqL.of hp⟩, ?_⟩
      have hy : (ns.map V.int)[(ns.map V.int).length - 1]? = some (.int (ns[ns.length - 1]'(by omega))) := by
        rw [List.length_map, List.getElem?_map, List.getElem?_eq_getElem (by omega)]
        rfl
      refine ⟨p, _, _, rfl, rfl, hp, hy, .inl ⟨_, rfl, _, rfl, _, _, rfl, rfl, hm, ?_⟩⟩
      rw [← List.map_dropLast]
      exact k _ _ (Int.emod_nonneg _ (by omega)) (Int.emod_lt_of_pos _ hm) (SB.put _) ⟨_, upd_same⟩
noncomputable def Dw.ns {K : PySem.W.Frag} {H : Hp} {a p : Addr} {xs : List Int} (d : Dw K H a p xs) : List Int := d.dr.choose
theorem Dw.at {K : PySem.W.Frag} {H : Hp} {a p : Addr} {xs : List Int} (d : Dw K H a p xs) : H p = some (.lst (d.ns.map V.int)) := d.dr.choose_spec
theorem four_at {a b c d : V} {i : Int} (h : 0 ≤ i) (h2 : i < 4) : ∃ v, atI [a, b, c, d] i = some v ∧ (v = a ∨ v = b ∨ v = c ∨ v = d) := by
  obtain ⟨j, rfl⟩ : ∃ j : Nat, i = (j : Int) := ⟨i.toNat, by omega⟩
  rcases (show j = 0 ∨ j = 1 ∨ j = 2 ∨ j = 3 by omega) with e | e | e | e <;> subst e
  · exact ⟨a, rfl, .inl rfl⟩
  · exact ⟨b, rfl, .inr (.inl rfl)⟩
  · exact ⟨c, rfl, .inr (.inr (.inl rfl))⟩
  · exact ⟨d, rfl, .inr (.inr (.inr rfl))⟩
abbrev sLawNumber : Stmt := top 30
theorem scLawNumber : FnScope ["_law_script", "_law_draws_here", "_law_kind", "_law_number_here"] ["_law_script", "_law_draws_here"] (defScope sLawNumber) := ⟨rfl, rfl, rfl, by decide +kernel, rfl, by decide +kernel, by decide +kernel⟩
theorem sm_of {n : Int} (h : 0 ≤ n) (h2 : n < 10 ^ 60) : sm n := by
  unfold sm
  omega
theorem has__law_number (T : Txt K w mg D) : Has P w K mg base "_law_number" ["_law_script", "_law_draws_here"] 2 (spDraw K GI) := by
  have h__law_take : Has P w K mg base "_law_take" ["_law_draws_here", "_law_many"] 1 spTake := has__law_take T
  refine T.d__law_number.has scLawNumber (fun vs H Q E h => ?_) (fun f cdv A outer s H vs Q E hr h => ?_)
  · obtain ⟨a, p, xs, rfl, _⟩ := h
    rfl
  · obtain ⟨a, p, xs, rfl, dw, k⟩ := h
    refine ⟨_, (pss_cons (ps_set (i := 2) scLawNumber.nd rfl (by first | exact Or.inl rfl | exact Or.inr rfl) (pe_has h__law_take (hr.mono (by decide)) (pa_cons (pv 1) (pa_cons pe_int pa_nil))))
      (pss_cons (ps_set (i := 3) scLawNumber.nd rfl (by first | exact Or.inl rfl | exact Or.inr rfl) (pe_has h__law_take (hr.mono (by decide)) (pa_cons (pv 1) (pa_cons pe_int pa_nil))))
      (pss_cons (ps_if (pt_cmpR op_eq (pv 2) pe_int (nomark _)) (pss_one (ps_ret (pe_op op_sub (pe_un un_neg pe_int) (pv 3))))
      pss_nil)
      (pss_cons (ps_if (pt_cmpR op_eq (pv 2) pe_int (nomark _)) (pss_one (ps_ret (pe_ix ix_list (pe_lst (pa_cons (pe_op op_sub (pe_op op_pow pe_int pe_int) pe_int) (pa_cons (pe_op op_sub pe_int (pe_op op_pow pe_int pe_int)) (pa_cons pe_int (pa_cons (pe_op op_pow pe_int pe_int) pa_nil))))) (pe_op op_mod (pe_callTy call_int1 (by rfl) T.int (by decide +kernel) (pa_cons (pv 3) pa_nil)) pe_int) (fun _ _ => rfl))))
      pss_nil)
      (pss_cons (ps_if (PW.pt (pw_and (pt_cmpR op_eq (pv 2) pe_int (nomark _)) (pw_and1 (pt_cmpR op_gt (pe_callB call_len_seq (by rfl) T.len PySem.boot_len (pa_cons (pv 0) pa_nil)) pe_int (nomark _))))) (pss_one (ps_ret (pe_op op_mod (pe_callTy call_int1 (by rfl) T.int (by decide +kernel) (pa_cons (pe_ix ix_list (pv 0) (pe_op op_mod (pe_callTy call_int1 (by rfl) T.int (by decide +kernel) (pa_cons (pv 3) pa_nil)) (pe_callB call_len_seq (by rfl) T.len PySem.boot_len (pa_cons (pv 0) pa_nil))) (fun _ _ => rfl)) pa_nil)) (pe_op op_pow pe_int pe_int))))
      pss_nil)
      (pss_one (ps_ret (pv 3)))))))), ?_⟩
    refine ⟨_, rfl, p, _, _, rfl, dw.at, by decide, fun k1 H1 a1 b1 s1 e1 => ⟨_, rfl, p, _, _, rfl, (dw.move s1 e1).at, by decide, fun n1 H2 a2 b2 s2 e2 => ?_⟩⟩
    have d2 := (dw.move s1 e1).move s2 e2
    have s12 := s1.tr s2
    refine ⟨_, rfl, rfl, _, rfl, ?_⟩
    rw [intEq]
    by_cases c1 : k1 = 1
    · rw [decide_eq_true c1]
      exact iteT ⟨1, rfl, _, rfl, _, _, rfl, rfl, k _ _ s12 d2 ⟨_, rfl, by unfold sm; omega⟩⟩
    rw [decide_eq_false c1]
    refine iteF ⟨_, rfl, rfl, _, rfl, ?_⟩
    rw [intEq]
    by_cases c2 : k1 = 2
    · rw [decide_eq_true c2]
      have pw : CPow 10 60 := ⟨by decide, by decide, by decide⟩
      have pw2 : CPow 10 59 := ⟨by decide, by decide, by decide⟩
      refine iteT ⟨_, _, rfl, rfl, pw, _, _, rfl, rfl, _, _, rfl, rfl, pw, _, _, rfl, rfl, _, _, rfl, rfl, pw2, by show 4 ≤ sizeLine; decide, fun q hq => ⟨_, rfl, .inl ⟨_, rfl, _, _, rfl, rfl, show (0 : Int) < 4 by decide, ?_⟩⟩⟩
      obtain ⟨v, hv, e⟩ := four_at (a := .int ((10 : Int) ^ (60 : Int).toNat - 1)) (b := .int (1 - (10 : Int) ^ (60 : Int).toNat)) (c := .int 0) (d := .int ((10 : Int) ^ (59 : Int).toNat)) (Int.emod_nonneg n1 (show (4 : Int) ≠ 0 by decide)) (Int.emod_lt_of_pos n1 (show (0 : Int) < 4 by decide))
      refine ⟨q, _, _, v, rfl, rfl, SqL.of upd_same, hv, k _ _ (s12.tr (.of (same_new hq))) (d2.same (same_new hq)) ?_⟩
      rcases e with e | e | e | e
      · exact ⟨_, e, by unfold sm; decide +kernel⟩
      · exact ⟨_, e, by unfold sm; decide +kernel⟩
      · exact ⟨_, e, by unfold sm; decide +kernel⟩
      · exact ⟨_, e, by unfold sm; decide +kernel⟩
    rw [decide_eq_false c2]
    refine iteF ⟨_, rfl, rfl, _, rfl, ?_⟩
    rw [intEq]
    have last : tRet (tVar 3) { nx := fun _ H' => Q .non H', rt := Q } [some (.ref a), some (.ref p), some (.int k1), some (.int n1)] H2 := ⟨_, rfl, k _ _ s12 d2 ⟨_, rfl, by unfold sm; omega⟩⟩
    by_cases c3 : k1 = 3
    · rw [decide_eq_true c3]
      refine iteT ⟨_, rfl, a, _, rfl, .inl d2.sq, _, _, rfl, rfl, _, rfl, ?_⟩
      rw [List.length_map]
      by_cases c4 : (0 : Int) < ((xs.length : Nat) : Int)
      · rw [decide_eq_true c4]
        have pw : CPow 10 60 := ⟨by decide, by decide, by decide⟩
        refine iteT ⟨_, rfl, _, rfl, .inl ⟨_, rfl, _, rfl, a, _, rfl, .inl d2.sq, ?_⟩⟩
        rw [List.length_map]
        refine ⟨_, _, rfl, rfl, c4, ?_⟩
        obtain ⟨j, hj⟩ : ∃ j : Nat, n1 % ((xs.length : Nat) : Int) = (j : Int) := ⟨(n1 % ((xs.length : Nat) : Int)).toNat, by have := Int.emod_nonneg n1 (show ((xs.length : Nat) : Int) ≠ 0 by omega); omega⟩
        have hlt : j < xs.length := by
          have := Int.emod_lt_of_pos n1 c4
          omega
        have hat : atI (xs.map V.int) (n1 % ((xs.length : Nat) : Int)) = some (.int (xs[j])) := by
          rw [hj]
          exact atI_nat (by rw [List.getElem?_map, List.getElem?_eq_getElem hlt]; rfl)
        refine ⟨a, _, _, .int (xs[j]), rfl, rfl, d2.sq, hat, .inl ⟨_, rfl, _, _, rfl, rfl, pw, _, _, rfl, rfl, show (0 : Int) < 10 ^ (60 : Int).toNat by decide +kernel, k _ _ s12 d2 ⟨_, rfl, ?_⟩⟩⟩
        exact sm_of (Int.emod_nonneg _ (by decide +kernel)) (Int.emod_lt_of_pos _ (by decide +kernel))
      · rw [decide_eq_false c4]
        exact iteF last
    · rw [decide_eq_false c3]
      exact iteF last
end
end K99

/-! K99D2 -/
set_option Elab.async false
set_option linter.all false
set_option maxRecDepth 100000
set_option maxHeartbeats 2000000
namespace K99
open PySem L2 TL
open PyProof.Rows (envOfC)
def vI : V → PyData
  | .int i => .int i
  | _ => .none
theorem vI_map (ns : List Int) : (ns.map V.int).map vI = ns.map PyData.int := by
  rw [List.map_map]
  rfl
/-- two ways to one rest: R stands for all that is Good -/
theorem ite_with {c A B : Prop} [Decidable c] {α : Type} (R Good : α → Prop) (h2 : ¬ c → (∀ x, Good x → R x) → B) (h1 : c → (∀ x, Good x → R x) → A) (g : ∀ x, Good x → R x) : if c then A else B := by
  by_cases q : c
  · rw [if_pos q]
    exact h1 q g
  · rw [if_neg q]
    exact h2 q g
theorem ixN_at {n j : Nat} (h : j < n) : ixN n (j : Int) = some j := by
  unfold ixN
  rw [if_pos (show (0 : Int) ≤ (j : Int) by omega), if_pos (show (j : Int) < (n : Int) by omega), Int.toNat_natCast]
theorem snocI (ds : List Int) (x : Int) : ds.map V.int ++ [V.int x] = (ds ++ [x]).map V.int := by
  rw [List.map_append]
  rfl
section
variable {P : Program} {w : World} {K : PySem.W.Frag} {mg : Str → Option Value} {base : Heap} {D : Addr}
abbrev sLawDraws : Stmt := top 28
theorem scLawDraws : FnScope ["_law_script", "_law_many", "_law_cells", "_law_rest", "_law_draws_here", "_law_k", "_law_at", "_law_cell", "_law_once"] ["_law_script", "_law_many"] (defScope sLawDraws) := ⟨rfl, rfl, rfl, by decide +kernel, rfl, by decide +kernel, by decide +kernel⟩
def spDraws (K : PySem.W.Frag) : Sp := fun vs H Q _ => ∃ (a : Addr) (xs : List Int), vs = [.ref a, .int 640] ∧ SqL K H a (xs.map V.int) ∧ xs.length ≤ 63 ∧ ∀ (p : Addr) (ms : List Int) (H' : Hp), Same H H' → H p = none → H' p = some (.lst (ms.map V.int)) → Q (.ref p) H'
theorem has__law_draws (T : Txt K w mg D) : Has P w K mg base "_law_draws" ["_law_script", "_law_many"] 1 (spDraws K) := by
  refine T.d__law_draws.has scLawDraws (fun vs H Q E h => ?_) (fun f cdv A outer s H vs Q E hr h => ?_)
  · obtain ⟨a, xs, rfl, _⟩ := h
    rfl
  · obtain ⟨a, xs, rfl, sq, few, k⟩ := h
    refine ⟨_, (pss_cons (ps_setLc (i := 2) (own := [("_law_cell", 7)]) rfl scLawDraws.nd rfl rfl (sw_true rfl rfl rfl (by decide +kernel)) (pi_list (pv 0)) (blkOk_by (own := [("_law_cell", 7)]) (N := ["_law_script", "_law_many", "_law_cells", "_law_rest", "_law_draws_here", "_law_k", "_law_at", "_law_cell", "_law_once"]) (sc := defScope sLawDraws) (by decide +kernel)) (fun _ _ _ _ _ => pg_name (i := 7) scLawDraws.nd rfl (Or.inl rfl)) (fun _ _ _ _ _ => pts_nil) (fun _ _ _ _ _ => (pe_callTy call_int1 (by rfl) T.int (by decide +kernel) (pa_cons (pv 7) pa_nil))))
      (pss_cons (ps_if (pt_cmpR op_eq (pe_callB call_len_seq (by rfl) T.len PySem.boot_len (pa_cons (pv 2) pa_nil)) pe_int (nomark _)) (pss_one (ps_expr (pe_bm PySem.F.plainAttrs_list PySem.F.slot_list_append PySem.F.type_list_append mt_append (pv 2) (pa_cons pe_int pa_nil))))
      pss_nil)
      (pss_cons (ps_set (i := 3) scLawDraws.nd rfl (by first | exact Or.inl rfl | exact Or.inr rfl) (pe_callTy call_list_of (by rfl) T.list (by decide +kernel) (pa_cons (pv 2) pa_nil)))
      (pss_cons (ps_set (i := 4) scLawDraws.nd rfl (by first | exact Or.inl rfl | exact Or.inr rfl) (pe_lst pa_nil))
      (pss_cons (ps_for PassesOwn.never rfl (pi_range1 (by rfl) T.range (pa_cons (pv 1) pa_nil)) (pg_name (i := 5) scLawDraws.nd rfl (Or.inl rfl))
      (pss_cons (ps_set (i := 6) scLawDraws.nd rfl (by first | exact Or.inl rfl | exact Or.inr rfl) (pe_op op_mod (pv 5) (pe_callB call_len_seq (by rfl) T.len PySem.boot_len (pa_cons (pv 2) pa_nil))))
      (pss_one (ps_if (pt_cmpR op_ge (pe_ix ix_list (pv 2) (pv 6) (fun _ _ => rfl)) (pe_op op_pow pe_int pe_int) (nomark _)) (pss_cons (ps_expr (pe_bm PySem.F.plainAttrs_list PySem.F.slot_list_append PySem.F.type_list_append mt_append (pv 4) (pa_cons (pe_op op_mod (pe_callTy call_int1 (by rfl) T.int (by decide +kernel) (pa_cons (pe_ix ix_list (pv 3) (pv 6) (fun _ _ => rfl)) pa_nil)) pe_int) pa_nil)))
      (pss_one (ps_asg (pe_op op_fdiv (pe_ix ix_list (pv 3) (pv 6) (fun _ _ => rfl)) pe_int) (pg_sub (pv 3) (pv 6) set_list))))
      (pss_cons (ps_set (i := 8) scLawDraws.nd rfl (by first | exact Or.inl rfl | exact Or.inr rfl) (pe_op op_mod (pe_callTy call_int1 (by rfl) T.int (by decide +kernel) (pa_cons (pe_op op_add (pe_op op_add (pe_op op_mul (pe_ix ix_list (pv 2) (pv 6) (fun _ _ => rfl)) pe_int) (pe_op op_mul (pv 5) pe_int)) pe_int) pa_nil)) pe_int))
      (pss_one (ps_expr (pe_bm PySem.F.plainAttrs_list PySem.F.slot_list_append PySem.F.type_list_append mt_append (pv 4) (pa_cons (pe_op op_mod (pe_callTy call_int1 (by rfl) T.int (by decide +kernel) (pa_cons (pe_op op_add (pe_op op_add (pe_op op_mul (pv 8) (pv 8)) (pe_op op_mul pe_int (pv 8))) (pv 5)) pa_nil)) pe_int) pa_nil)))))))))
      (pss_cons (ps_expr (pe_bm0 PySem.F.plainAttrs_list PySem.F.slot_list_reverse PySem.F.type_list_reverse mt_reverse (pv 4)))
      (pss_one (ps_ret (pv 4))))))))), ?_⟩
    refine ⟨_, rfl, a, rfl, ⟨_, sq⟩, fun C hC => lc_map (K := K) vI sq hC ?_ ?_ ?_⟩
    · rw [List.length_map]
      exact Nat.le_trans few (by decide)
    · intro i x H2 Q2 hx s2 q2
      rw [List.getElem?_map] at hx
      cases hn : xs[i]? with
      | none =>
        rw [hn] at hx
        cases hx
      | some n =>
        rw [hn] at hx
        have hx := Option.some.inj hx
        subst hx
        exact ⟨_, rfl, .inl ⟨_, rfl, q2 _ _ (Same.refl _) (.int _)⟩⟩
    · intro H1 acc s1 hacc ht
      rw [vI_map] at ht
      rw [ht.ints_inv] at hacc
      refine ⟨_, rfl, C, _, rfl, .inl (SqL.of hacc), rfl, _, rfl, ?_⟩
      rw [intEq, List.length_map]
      refine' ite_with _ (fun H2 : Hp => ∃ cs : List Int, cs ≠ [] ∧ cs.length ≤ 64 ∧ Same H H2 ∧ H2 C = some (.lst (cs.map V.int))) ?h2 ?h1 ?g
      case h2 =>
        intro c g
        refine g H1 ⟨xs, ?_, by omega, s1, hacc⟩
        rintro rfl
        exact c rfl
      case h1 =>
        intro c g
        refine ⟨_, rfl, .inl ⟨rfl, _, SqL.of hacc⟩, C, _, _, rfl, rfl, hacc, ?_, g _ ⟨xs ++ [0], by simp, by simp; omega, same_own s1 hC, ?_⟩⟩
        · rw [List.length_map]
          exact Nat.lt_of_le_of_lt few (by decide)
        · rw [← snocI]
          exact upd_same
      case g =>
        rintro H2 ⟨cs, ne, len, s2, hC2⟩
        refine ⟨_, rfl, C, _, rfl, .inl (SqL.of hC2), fun R hR => ⟨Nat.zero_le _, fun p hp => ?_⟩⟩
        have nCR : C ≠ R := ne_of_none hC2 hR
        have nRp : R ≠ p := ptr_ne hp
        have nCp : C ≠ p := ne_of_none (by rw [upd_ne nCR]; exact hC2) hp
        have hpos : (0 : Int) < ((cs.length : Nat) : Int) := by
          have := List.length_pos_iff.mpr ne
          omega
        have p0 : H p = none := by
          cases e : H p with
          | none => rfl
          | some u =>
            have z := (s2.trans (same_new (o := .lst (cs.map V.int)) hR)) _ _ e
            rw [hp] at z
            cases z
        refine ⟨_, rfl, 640, rfl, by decide, by decide, for_range (lo := 0) (n := (640 : Int).toNat) (fun i σ H' => ∃ (v5 v6 v7 v8 : Option V) (rs ds : List Int), σ = [some (.ref a), some (.int 640), some (.ref C), some (.ref R), some (.ref p), v5, v6, v7, v8] ∧ Same H H' ∧ H' C = some (.lst (cs.map V.int)) ∧ H' R = some (.lst (rs.map V.int)) ∧ rs.length = cs.length ∧ H' p = some (.lst (ds.map V.int)) ∧ ds.length = i)
          ⟨none, none, none, none, cs, [], rfl, s2.trans ((same_new hR).trans (same_new hp)), ?_, ?_, rfl, upd_same, rfl⟩ ?_ ?_⟩
        · rw [upd_ne nCp, upd_ne nCR]
          exact hC2
        · rw [upd_ne nRp]
          exact upd_same
        · rintro i σ H3 hi ⟨v5, v6, v7, v8, rs, ds, rfl, s3, hC3, hR3, lrs, hp3, lds⟩
          have hi : i < 640 := hi
          have C0 : H C = none := hC
          have R0 : H R = none := by
            cases e : H R with
            | none => rfl
            | some u =>
              have z := s2 _ _ e
              rw [hR] at z
              cases z
          obtain ⟨j, hj, hlt⟩ : ∃ j : Nat, (0 + (i : Int)) % ((cs.length : Nat) : Int) = (j : Int) ∧ j < cs.length := by
            have h1 := Int.emod_nonneg (0 + (i : Int)) (show ((cs.length : Nat) : Int) ≠ 0 by omega)
            have h2 := Int.emod_lt_of_pos (0 + (i : Int)) hpos
            exact ⟨((0 + (i : Int)) % ((cs.length : Nat) : Int)).toNat, by omega, by omega⟩
          have short : (ds.map V.int).length < sizeLine := by
            rw [List.length_map, lds]
            exact Nat.lt_trans hi (by decide)
          have atC : atI (cs.map V.int) ((0 + (i : Int)) % ((cs.length : Nat) : Int)) = some (.int (cs[j])) := by
            rw [hj]
            exact atI_nat (by rw [List.getElem?_map, List.getElem?_eq_getElem hlt]; rfl)
          have hlt2 : j < rs.length := by omega
          have atR : atI (rs.map V.int) ((0 + (i : Int)) % ((cs.length : Nat) : Int)) = some (.int (rs[j])) := by
            rw [hj]
            exact atI_nat (by rw [List.getElem?_map, List.getElem?_eq_getElem hlt2]; rfl)
          have ixR : ixN (rs.map V.int).length ((0 + (i : Int)) % ((cs.length : Nat) : Int)) = some j := by
            rw [hj, List.length_map]
            exact ixN_at hlt2
          refine ⟨_, rfl, _, rfl, C, _, rfl, .inl (SqL.of hC3), ?_⟩
          rw [List.length_map]
          refine ⟨_, _, rfl, rfl, hpos, ?_⟩
          refine ⟨_, rfl, _, rfl, C, _, _, _, rfl, rfl, SqL.of hC3, atC, _, _, rfl, rfl, ⟨by decide, by decide, by decide⟩, _, _, rfl, rfl, _, rfl, ?_⟩
          refine ite2 (fun _ => ?_) (fun _ => ?_)
          · refine ⟨_, rfl, .inl ⟨rfl, _, SqL.of hp3⟩, _, rfl, _, rfl, R, _, _, _, rfl, rfl, SqL.of hR3, atR, .inl ⟨_, rfl, _, _, rfl, rfl, show (0 : Int) < 1000 by decide, p, _, _, rfl, rfl, hp3, short, ?_⟩⟩
            have hR4 : (upd H3 p (.lst (ds.map V.int ++ [V.int (rs[j] % 1000)]))) R = some (.lst (rs.map V.int)) := by
              rw [upd_ne nRp]
              exact hR3
            refine ⟨_, rfl, _, rfl, R, _, _, _, rfl, rfl, SqL.of hR4, atR, _, _, rfl, rfl, ⟨by decide, by decide⟩, _, rfl, _, rfl, R, _, _, j, rfl, rfl, hR4, ixR, ?_⟩
            refine ⟨_, _, _, _, rs.set j (rs[j] / 1000), ds ++ [rs[j] % 1000], rfl, same_own (same_own s3 p0) R0, ?_, ?_, ?_, ?_, ?_⟩
            · rw [upd_ne nCR, upd_ne nCp]
              exact hC3
            · rw [upd_same, List.map_set]
            · rw [List.length_set]
              exact lrs
            · rw [upd_ne (Ne.symm nRp), upd_same, snocI]
            · rw [List.length_append, lds]
              rfl
          · have b1 := Int.emod_nonneg (cs[j] * 48271 + (0 + (i : Int)) * 69621 + 11) (show (2147483647 : Int) ≠ 0 by decide)
            have b2 := Int.emod_lt_of_pos (cs[j] * 48271 + (0 + (i : Int)) * 69621 + 11) (show (0 : Int) < 2147483647 by decide)
            refine ⟨_, rfl, _, rfl, C, _, _, _, rfl, rfl, SqL.of hC3, atC, _, _, rfl, rfl, .inr ⟨by decide, by decide⟩, _, rfl, _, _, rfl, rfl, .inr ⟨by decide, by decide⟩, _, _, rfl, rfl, _, _, rfl, rfl, .inl ⟨_, rfl, _, _, rfl, rfl, show (0 : Int) < 2147483647 by decide, ?_⟩⟩
            refine ⟨_, rfl, .inl ⟨rfl, _, SqL.of hp3⟩, _, rfl, _, rfl, _, _, rfl, rfl, .inl ⟨by omega, by omega⟩, _, rfl, _, _, rfl, rfl, .inl ⟨by decide, by decide⟩, _, _, rfl, rfl, _, rfl, _, _, rfl, rfl, .inl ⟨_, rfl, _, _, rfl, rfl, show (0 : Int) < 1000003 by decide, p, _, _, rfl, rfl, hp3, short, ?_⟩⟩
            have hq : ∀ x : Int, (upd H3 p (.lst (ds.map V.int ++ [V.int x]))) p = some (.lst ((ds ++ [x]).map V.int)) := fun x => by rw [upd_same, snocI]
            refine ⟨_, _, _, _, rs, ds ++ [_], rfl, same_own s3 p0, ?_, ?_, lrs, hq _, ?_⟩
            · rw [upd_ne nCp]
              exact hC3
            · rw [upd_ne nRp]
              exact hR3
            · rw [List.length_append, lds]
              rfl
        · rintro σ H3 ⟨v5, v6, v7, v8, rs, ds, rfl, s3, hC3, hR3, lrs, hp3, lds⟩
          refine ⟨_, rfl, .inl ⟨rfl, _, SqL.of hp3⟩, p, _, rfl, rfl, hp3, _, rfl, k p ds.reverse _ (same_own s3 p0) p0 ?_⟩
          rw [upd_same, List.map_reverse]
end
end K99

/-! K99D3 -/
set_option Elab.async false
set_option linter.all false
set_option maxRecDepth 100000
set_option maxHeartbeats 2000000
namespace K99
open PySem L2 TL
open PyProof.Rows (envOfC)
/-- v is the data f x, of some x with R x -/
def GD {α : Type} (f : α → PyData) (R : α → Prop) : Hp → V → Prop := fun H v => ∃ x, Tp H v (f x) ∧ R x
theorem GD.up {α : Type} {f : α → PyData} {R : α → Prop} (H H' : Hp) (v : V) (t : Tle H H') (h : GD f R H v) : GD f R H' v := h.elim fun x e => ⟨x, e.1.le t, e.2⟩
theorem GI.up (H H' : Hp) (v : V) (_ : Tle H H') (h : GI H v) : GI H' v := h
theorem GD.list {α : Type} {f : α → PyData} {R : α → Prop} {H : Hp} : ∀ {acc : List V}, (∀ y ∈ acc, GD f R H y) → ∃ xs : List α, TpA H acc (xs.map f) ∧ ∀ x ∈ xs, R x
  | [], _ => ⟨[], .nil, fun n hn => by simp at hn⟩
  | v :: acc, h => by
    obtain ⟨x, hx, rx⟩ := h v List.mem_cons_self
    obtain ⟨xs, hs, rs⟩ := GD.list (acc := acc) fun y hy => h y (List.mem_cons_of_mem _ hy)
    refine ⟨x :: xs, .cons hx hs, fun m hm => ?_⟩
    rcases List.mem_cons.mp hm with rfl | hm
    · exact rx
    · exact rs m hm
def Row (ns : List Int) : Prop := ns.length ≤ 30 ∧ ∀ n ∈ ns, sm n
def Grp (gs : List (List Int × Int)) : Prop := gs.length ≤ 2 ∧ ∀ g ∈ gs, Row g.1 ∧ sm g.2
inductive PartOk : PyData → Prop
  | maker {r : Int} {a b : List Int} : sm r → Row a → Row b → PartOk (.tuple [.str "maker", .int r, tupI a, tupI b])
  | sides {r x : Int} {a b : List Int} : sm r → sm x → Row a → Row b → PartOk (.tuple [.str "sides", .int r, tupI a, .int x, tupI b])
  | trader {r x : Int} {a b : List Int} : sm r → sm x → Row a → Row b → PartOk (.tuple [.str "trader", .int r, .int x, tupI a, tupI b])
  | caps {a b : List Int} {g h : List (List Int × Int)} : Row a → Row b → Grp g → Grp h → PartOk (.tuple [.str "caps", tupI a, gsD g, tupI b, gsD h])
  | table {rs : List (List Int)} : rs.length ≤ 3 → (∀ r ∈ rs, Row r) → PartOk (.tuple [.str "table", .tuple (rs.map tupI)])
inductive ChoiceOk : PyData → Prop
  | part {d : PyData} : PartOk d → ChoiceOk d
  | split {ps : List PyData} : ps.length ≤ 3 → (∀ d ∈ ps, PartOk d) → ChoiceOk (.tuple [.str "split", .tuple ps])
inductive DeedOk : PyData → Prop
  | choose {h : Int} {c : PyData} : sm h → ChoiceOk c → DeedOk (.tuple [.str "choose", .int h, c])
  | plain {k : Str} {ns : List Int} : (k = "offer" ∨ k = "cancel" ∨ k = "undo" ∨ k = "redo") → ns.length ≤ 3 → (∀ n ∈ ns, sm n) → DeedOk (.tuple (.str k :: ns.map .int))
theorem four_int {i : Int} (h : 0 ≤ i) (h2 : i < 4) : ∃ m : Int, atI [V.int 0, .int 1, .int 2, .int 3] i = some (.int m) ∧ 0 ≤ m ∧ m ≤ 3 := by
  obtain ⟨v, hv, e⟩ := four_at (a := .int 0) (b := .int 1) (c := .int 2) (d := .int 3) h h2
  rcases e with e | e | e | e <;> subst e
  · exact ⟨0, hv, by omega, by omega⟩
  · exact ⟨1, hv, by omega, by omega⟩
  · exact ⟨2, hv, by omega, by omega⟩
  · exact ⟨3, hv, by omega, by omega⟩
section
variable {P : Program} {w : World} {K : PySem.W.Frag} {mg : Str → Option Value} {base : Heap} {D : Addr}
abbrev GRow : Hp → V → Prop := GD tupI Row
def spNumbers (K : PySem.W.Frag) : Sp := fun vs H Q _ => ∃ (a p : Addr) (xs : List Int) (l : Int), vs = [.ref a, .ref p, .int l] ∧ Dw K H a p xs ∧ 0 ≤ l ∧ l ≤ 1 ∧ ∀ (v : V) (H' : Hp), SB p H H' → Dw K H' a p xs → GRow H' v → Q v H'
abbrev sLawNumbers : Stmt := top 31
theorem scLawNumbers : FnScope ["_law_script", "_law_draws_here", "_law_least", "_law_many", "_law_k"] ["_law_script", "_law_draws_here", "_law_least"] (defScope sLawNumbers) := ⟨rfl, rfl, rfl, by decide +kernel, rfl, by decide +kernel, by decide +kernel⟩
theorem has__law_numbers (T : Txt K w mg D) : Has P w K mg base "_law_numbers" ["_law_script", "_law_draws_here", "_law_least"] 3 (spNumbers K) := by
  have h__law_take : Has P w K mg base "_law_take" ["_law_draws_here", "_law_many"] 1 spTake := has__law_take T
  have h__law_number : Has P w K mg base "_law_number" ["_law_script", "_law_draws_here"] 2 (spDraw K GI) := has__law_number T
  refine T.d__law_numbers.has scLawNumbers (fun vs H Q E h => ?_) (fun f cdv A outer s H vs Q E hr h => ?_)
  · obtain ⟨a, p, xs, l, rfl, _⟩ := h
    rfl
  · obtain ⟨a, p, xs, l, rfl, dw, l1, l2, k⟩ := h
    refine ⟨_, (pss_cons (ps_set (i := 3) scLawNumbers.nd rfl (by first | exact Or.inl rfl | exact Or.inr rfl) (pe_op op_add (pv 2) (pe_ix ix_list (pe_lst (pa_cons pe_int (pa_cons pe_int (pa_cons pe_int (pa_cons pe_int pa_nil))))) (pe_has h__law_take (hr.mono (by decide)) (pa_cons (pv 1) (pa_cons pe_int pa_nil))) (fun _ _ => rfl))))
      (pss_cons (ps_if (pt_cmpR op_eq (pe_has h__law_take (hr.mono (by decide)) (pa_cons (pv 1) (pa_cons pe_int pa_nil))) pe_int (nomark _)) (pss_one (ps_ret (pe_callTy call_tuple_of (by rfl) T.tuple (by decide +kernel) (pa_cons (pe_lc (own := [("_law_k", 4)]) rfl scLawNumbers.nd (pi_range1 (by rfl) T.range (pa_cons pe_int pa_nil)) (blkOk_by (own := [("_law_k", 4)]) (N := ["_law_script", "_law_draws_here", "_law_least", "_law_many", "_law_k"]) (sc := defScope sLawNumbers) (by decide +kernel)) (fun _ _ _ _ _ => pg_name (i := 4) scLawNumbers.nd rfl (Or.inl rfl)) (fun _ _ _ _ _ => pts_nil) (fun _ _ _ _ _ => (pe_op op_mod (pe_callTy call_int1 (by rfl) T.int (by decide +kernel) (pa_cons (pe_op op_mul (pv 4) (pv 4)) pa_nil)) pe_int))) pa_nil))))
      pss_nil)
      (pss_one (ps_ret (pe_callTy call_tuple_of (by rfl) T.tuple (by decide +kernel) (pa_cons (pe_lc (own := [("_law_k", 4)]) rfl scLawNumbers.nd (pi_range1 (by rfl) T.range (pa_cons (pv 3) pa_nil)) (blkOk_by (own := [("_law_k", 4)]) (N := ["_law_script", "_law_draws_here", "_law_least", "_law_many", "_law_k"]) (sc := defScope sLawNumbers) (by decide +kernel)) (fun _ _ _ _ _ => pg_name (i := 4) scLawNumbers.nd rfl (Or.inl rfl)) (fun _ _ _ _ _ => pts_nil) (fun _ _ _ _ _ => (pe_has h__law_number (hr.mono (by decide)) (pa_cons (pv 0) (pa_cons (pv 1) pa_nil))))) pa_nil)))))), ?_⟩
    refine ⟨_, rfl, by show 4 ≤ sizeLine; decide, fun q hq => ⟨_, rfl, p, _, _, rfl, (dw.same (same_new hq)).at, by decide, fun n1 H1 a1 b1 s1 e1 => ?_⟩⟩
    obtain ⟨m, hm, m1, m2⟩ := four_int a1 b1
    have d1 := (dw.same (same_new hq)).move s1 e1
    have sb1 : SB p H H1 := (SB.of (same_new hq)).tr s1
    refine ⟨q, _, _, _, rfl, rfl, SqL.of (s1 _ _ (dw.npD hq) upd_same), hm, _, _, rfl, rfl, _, rfl, p, _, _, rfl, d1.at, by decide, fun n2 H2 a2 b2 s2 e2 => ⟨rfl, _, rfl, ?_⟩⟩
    have d2 := d1.move s2 e2
    have sb2 := sb1.tr s2
    have done : ∀ (Dd : Addr) (H3 : Hp) (acc : List V), SB p H2 H3 → Dw K H3 a p xs → H3 Dd = some (.lst acc) → acc.length ≤ 30 → (∀ y ∈ acc, GI H3 y) → ∀ t, H3 t = none → Q (.ref t) (upd H3 t (.tup acc)) := by
      intro Dd H3 acc s3 d3 hacc hl hg t ht
      obtain ⟨ns, rfl, hs⟩ := GI.list hg
      rw [List.length_map] at hl
      exact k _ _ ((sb2.tr s3).tr (.of (same_new ht))) (d3.same (same_new ht)) ⟨ns, Tp.ofI upd_same, hl, hs⟩
    refine ite2 (fun _ => ?_) (fun _ => ?_)
    · refine ⟨30, rfl, by decide, by decide, fun Dd hD => lc_draw (K := K) (n := (30 : Int).toNat) GI GI.up d2 hD (by decide) ?_ ?_⟩
      · intro i H3 Q3 hi d3 q3
        have hi : i < 30 := hi
        refine ⟨_, rfl, _, rfl, _, _, rfl, rfl, .inl ⟨by omega, by omega⟩, .inl ⟨_, rfl, _, _, rfl, rfl, show (0 : Int) < 41 by decide, q3 _ _ (SB.refl _ _) d3 ⟨_, rfl, sm_of (Int.emod_nonneg _ (by decide)) ?_⟩⟩⟩
        exact Int.lt_trans (Int.emod_lt_of_pos _ (by decide)) (by decide +kernel)
      · intro H3 acc s3 d3 hacc hl hg
        exact ⟨Dd, _, rfl, .inl ⟨SqL.of hacc, done Dd H3 acc s3 d3 hacc (by rw [hl]; decide) hg⟩⟩
    · refine ⟨_, rfl, _, rfl, by omega, by omega, fun Dd hD => lc_draw (K := K) GI GI.up d2 hD (Nat.le_trans (show _ ≤ 4 by omega) (by decide)) ?_ ?_⟩
      · intro i H3 Q3 hi d3 q3
        exact ⟨_, rfl, _, rfl, a, p, xs, rfl, d3, q3⟩
      · intro H3 acc s3 d3 hacc hl hg
        exact ⟨Dd, _, rfl, .inl ⟨SqL.of hacc, done Dd H3 acc s3 d3 hacc (by omega) hg⟩⟩
abbrev sLawCaps : Stmt := top 32
theorem scLawCaps : FnScope ["_law_script", "_law_draws_here", "_law_k"] ["_law_script", "_law_draws_here"] (defScope sLawCaps) := ⟨rfl, rfl, rfl, by decide +kernel, rfl, by decide +kernel, by decide +kernel⟩
abbrev GGrp : Hp → V → Prop := GD gsD Grp
theorem has__law_caps (T : Txt K w mg D) : Has P w K mg base "_law_caps" ["_law_script", "_law_draws_here"] 4 (spDraw K GGrp) := by
  have h__law_take : Has P w K mg base "_law_take" ["_law_draws_here", "_law_many"] 1 spTake := has__law_take T
  have h__law_number : Has P w K mg base "_law_number" ["_law_script", "_law_draws_here"] 2 (spDraw K GI) := has__law_number T
  have h__law_numbers : Has P w K mg base "_law_numbers" ["_law_script", "_law_draws_here", "_law_least"] 3 (spNumbers K) := has__law_numbers T
  refine T.d__law_caps.has scLawCaps (fun vs H Q E h => ?_) (fun f cdv A outer s H vs Q E hr h => ?_)
  · obtain ⟨a, p, xs, rfl, _⟩ := h
    rfl
  · obtain ⟨a, p, xs, rfl, dw, k⟩ := h
    refine ⟨_, (pss_one (ps_ret (pe_callTy call_tuple_of (by rfl) T.tuple (by decide +kernel) (pa_cons (pe_lc (own := [("_law_k", 2)]) rfl scLawCaps.nd (pi_range1 (by rfl) T.range (pa_cons (pe_has h__law_take (hr.mono (by decide)) (pa_cons (pv 1) (pa_cons pe_int pa_nil))) pa_nil)) (blkOk_by (own := [("_law_k", 2)]) (N := ["_law_script", "_law_draws_here", "_law_k"]) (sc := defScope sLawCaps) (by decide +kernel)) (fun _ _ _ _ _ => pg_name (i := 2) scLawCaps.nd rfl (Or.inl rfl)) (fun _ _ _ _ _ => pts_nil) (fun _ _ _ _ _ => (pe_tup (pa_cons (pe_has h__law_numbers (hr.mono (by decide)) (pa_cons (pv 0) (pa_cons (pv 1) (pa_cons pe_int pa_nil)))) (pa_cons (pe_has h__law_number (hr.mono (by decide)) (pa_cons (pv 0) (pa_cons (pv 1) pa_nil))) pa_nil))))) pa_nil)))), ?_⟩
    refine ⟨_, rfl, p, _, _, rfl, dw.at, by decide, fun n1 H1 a1 b1 s1 e1 => ⟨_, rfl, by omega, by omega, fun Dd hD => ?_⟩⟩
    have d1 := dw.move s1 e1
    refine lc_draw (K := K) (GD grpD fun g => Row g.1 ∧ sm g.2) GD.up d1 hD (Nat.le_trans (show _ ≤ 3 by omega) (by decide)) ?_ ?_
    · intro i H3 Q3 hi d3 q3
      refine ⟨_, rfl, _, rfl, a, p, xs, 1, rfl, d3, by omega, by omega, fun v1 H4 s4 d4 g4 => ⟨_, rfl, _, rfl, a, p, xs, rfl, d4, fun v2 H5 s5 d5 g5 => ⟨by show 2 ≤ sizeLine; decide, fun t ht => ?_⟩⟩⟩
      obtain ⟨ns, tn, rn⟩ := g4
      obtain ⟨n, rfl, hn⟩ := g5
      exact q3 _ _ ((s4.tr s5).tr (.of (same_new ht))) (d5.same (same_new ht)) ⟨(ns, n), .tup upd_same (.cons ((tn.le (d4.tle s5)).same (same_new ht)) (.cons (.int _) .nil)), rn, hn⟩
    · intro H3 acc s3 d3 hacc hl hg
      obtain ⟨gs, tg, rg⟩ := GD.list hg
      have lg := tg.length
      rw [List.length_map] at lg
      exact ⟨Dd, _, rfl, .inl ⟨SqL.of hacc, fun t ht => k _ _ ((s1.tr s3).tr (.of (same_new ht))) (d3.same (same_new ht)) ⟨gs, .tup upd_same (tg.same (same_new ht)), by omega, rg⟩⟩⟩
end
end K99

/-! K99D4 -/
set_option Elab.async false
set_option linter.all false
set_option maxRecDepth 100000
set_option maxHeartbeats 2000000
namespace K99
open PySem L2 TL
open PyProof.Rows (envOfC)
section
variable {P : Program} {w : World} {K : PySem.W.Frag} {mg : Str → Option Value} {base : Heap} {D : Addr}
abbrev GPart : Hp → V → Prop := GD id PartOk
abbrev sLawPart : Stmt := top 33
theorem scLawPart : FnScope ["_law_script", "_law_draws_here", "_law_kind", "_law_one", "_law_other", "_law_room", "_law_k"] ["_law_script", "_law_draws_here"] (defScope sLawPart) := ⟨rfl, rfl, rfl, by decide +kernel, rfl, by decide +kernel, by decide +kernel⟩
theorem has__law_part (T : Txt K w mg D) : Has P w K mg base "_law_part" ["_law_script", "_law_draws_here"] 5 (spDraw K GPart) := by
  have h__law_take : Has P w K mg base "_law_take" ["_law_draws_here", "_law_many"] 1 spTake := has__law_take T
  have h__law_number : Has P w K mg base "_law_number" ["_law_script", "_law_draws_here"] 2 (spDraw K GI) := has__law_number T
  have h__law_numbers : Has P w K mg base "_law_numbers" ["_law_script", "_law_draws_here", "_law_least"] 3 (spNumbers K) := has__law_numbers T
  have h__law_caps : Has P w K mg base "_law_caps" ["_law_script", "_law_draws_here"] 4 (spDraw K GGrp) := has__law_caps T
  refine T.d__law_part.has scLawPart (fun vs H Q E h => ?_) (fun f cdv A outer s H vs Q E hr h => ?_)
  · obtain ⟨a, p, xs, rfl, _⟩ := h
    rfl
  · obtain ⟨a, p, xs, rfl, dw, k⟩ := h
    refine ⟨_, (pss_cons (ps_set (i := 2) scLawPart.nd rfl (by first | exact Or.inl rfl | exact Or.inr rfl) (pe_has h__law_take (hr.mono (by decide)) (pa_cons (pv 1) (pa_cons pe_int pa_nil))))
      (pss_cons (ps_set (i := 3) scLawPart.nd rfl (by first | exact Or.inl rfl | exact Or.inr rfl) (pe_has h__law_numbers (hr.mono (by decide)) (pa_cons (pv 0) (pa_cons (pv 1) (pa_cons pe_int pa_nil)))))
      (pss_cons (ps_set (i := 4) scLawPart.nd rfl (by first | exact Or.inl rfl | exact Or.inr rfl) (pe_has h__law_numbers (hr.mono (by decide)) (pa_cons (pv 0) (pa_cons (pv 1) (pa_cons pe_int pa_nil)))))
      (pss_cons (ps_set (i := 5) scLawPart.nd rfl (by first | exact Or.inl rfl | exact Or.inr rfl) (pe_has h__law_number (hr.mono (by decide)) (pa_cons (pv 0) (pa_cons (pv 1) pa_nil))))
      (pss_cons (ps_if (pt_cmpR op_eq (pv 2) pe_int (nomark _)) (pss_one (ps_ret (pe_tup (pa_cons pe_str (pa_cons (pv 5) (pa_cons (pv 3) (pa_cons (pv 4) pa_nil)))))))
      pss_nil)
      (pss_cons (ps_if (pt_cmpR op_eq (pv 2) pe_int (nomark _)) (pss_one (ps_ret (pe_tup (pa_cons pe_str (pa_cons (pv 5) (pa_cons (pv 3) (pa_cons (pe_has h__law_number (hr.mono (by decide)) (pa_cons (pv 0) (pa_cons (pv 1) pa_nil))) (pa_cons (pv 4) pa_nil))))))))
      pss_nil)
      (pss_cons (ps_if (pt_cmpR op_eq (pv 2) pe_int (nomark _)) (pss_one (ps_ret (pe_tup (pa_cons pe_str (pa_cons (pv 5) (pa_cons (pe_has h__law_number (hr.mono (by decide)) (pa_cons (pv 0) (pa_cons (pv 1) pa_nil))) (pa_cons (pv 3) (pa_cons (pv 4) pa_nil))))))))
      pss_nil)
      (pss_cons (ps_if (pt_cmpR op_eq (pv 2) pe_int (nomark _)) (pss_one (ps_ret (pe_tup (pa_cons pe_str (pa_cons (pv 3) (pa_cons (pe_has h__law_caps (hr.mono (by decide)) (pa_cons (pv 0) (pa_cons (pv 1) pa_nil))) (pa_cons (pv 4) (pa_cons (pe_has h__law_caps (hr.mono (by decide)) (pa_cons (pv 0) (pa_cons (pv 1) pa_nil))) pa_nil))))))))
      pss_nil)
      (pss_one (ps_ret (pe_tup (pa_cons pe_str (pa_cons (pe_callTy call_tuple_of (by rfl) T.tuple (by decide +kernel) (pa_cons (pe_lc (own := [("_law_k", 6)]) rfl scLawPart.nd (pi_range1 (by rfl) T.range (pa_cons (pe_has h__law_take (hr.mono (by decide)) (pa_cons (pv 1) (pa_cons pe_int pa_nil))) pa_nil)) (blkOk_by (own := [("_law_k", 6)]) (N := ["_law_script", "_law_draws_here", "_law_kind", "_law_one", "_law_other", "_law_room", "_law_k"]) (sc := defScope sLawPart) (by decide +kernel)) (fun _ _ _ _ _ => pg_name (i := 6) scLawPart.nd rfl (Or.inl rfl)) (fun _ _ _ _ _ => pts_nil) (fun _ _ _ _ _ => (pe_has h__law_numbers (hr.mono (by decide)) (pa_cons (pv 0) (pa_cons (pv 1) (pa_cons pe_int pa_nil)))))) pa_nil)) pa_nil))))))))))))), ?_⟩
    refine ⟨_, rfl, p, _, _, rfl, dw.at, by decide, fun n1 H1 a1 b1 s1 e1 => ?_⟩
    have d1 := dw.move s1 e1
    refine ⟨_, rfl, _, rfl, a, p, xs, 0, rfl, d1, by omega, by omega, fun v2 H2 s2 d2 g2 => ?_⟩
    refine ⟨_, rfl, _, rfl, a, p, xs, 0, rfl, d2, by omega, by omega, fun v3 H3 s3 d3 g3 => ?_⟩
    refine ⟨_, rfl, _, rfl, a, p, xs, rfl, d3, fun v4 H4 s4 d4 g4 => ?_⟩
    obtain ⟨one, t2, r2⟩ := g2
    obtain ⟨oth, t3, r3⟩ := g3
    obtain ⟨room, rfl, r4⟩ := g4
    have t2 := (t2.le (d2.tle s3)).le (d3.tle s4)
    have t3 := t3.le (d3.tle s4)
    have sb4 := ((s1.tr s2).tr s3).tr s4
    refine ⟨_, rfl, rfl, _, rfl, ?_⟩
    refine ite2 (fun _ => ?_) (fun _ => ?_)
    · refine ⟨_, rfl, _, rfl, _, rfl, by show 4 ≤ sizeLine; decide, fun t ht => ?_⟩
      have z := same_new (o := .tup [V.str "maker", .int room, v2, v3]) ht
      exact k _ _ (sb4.tr (.of z)) (d4.same z) ⟨_, .tup upd_same (.cons (.str _) (.cons (.int _) (.cons (t2.same z) (.cons (t3.same z) .nil)))), .maker r4 r2 r3⟩
    refine ⟨_, rfl, rfl, _, rfl, ?_⟩
    refine ite2 (fun _ => ?_) (fun _ => ?_)
    · refine ⟨_, rfl, _, rfl, _, rfl, _, rfl, a, p, xs, rfl, d4, fun v5 H5 s5 d5 g5 => ⟨_, rfl, by show 5 ≤ sizeLine; decide, fun t ht => ?_⟩⟩
      obtain ⟨x5, rfl, r5⟩ := g5
      have z := same_new (o := .tup [V.str "sides", .int room, v2, .int x5, v3]) ht
      exact k _ _ ((sb4.tr s5).tr (.of z)) (d5.same z) ⟨_, .tup upd_same (.cons (.str _) (.cons (.int _) (.cons ((t2.le (d4.tle s5)).same z) (.cons (.int _) (.cons ((t3.le (d4.tle s5)).same z) .nil))))), .sides r4 r5 r2 r3⟩
    refine ⟨_, rfl, rfl, _, rfl, ?_⟩
    refine ite2 (fun _ => ?_) (fun _ => ?_)
    · refine ⟨_, rfl, _, rfl, _, rfl, a, p, xs, rfl, d4, fun v5 H5 s5 d5 g5 => ⟨_, rfl, _, rfl, by show 5 ≤ sizeLine; decide, fun t ht => ?_⟩⟩
      obtain ⟨x5, rfl, r5⟩ := g5
      have z := same_new (o := .tup [V.str "trader", .int room, .int x5, v2, v3]) ht
      exact k _ _ ((sb4.tr s5).tr (.of z)) (d5.same z) ⟨_, .tup upd_same (.cons (.str _) (.cons (.int _) (.cons (.int _) (.cons ((t2.le (d4.tle s5)).same z) (.cons ((t3.le (d4.tle s5)).same z) .nil))))), .trader r4 r5 r2 r3⟩
    refine ⟨_, rfl, rfl, _, rfl, ?_⟩
    refine ite2 (fun _ => ?_) (fun _ => ?_)
    · refine ⟨_, rfl, _, rfl, _, rfl, a, p, xs, rfl, d4, fun v5 H5 s5 d5 g5 => ⟨_, rfl, _, rfl, _, rfl, a, p, xs, rfl, d5, fun v6 H6 s6 d6 g6 => ⟨by show 5 ≤ sizeLine; decide, fun t ht => ?_⟩⟩⟩
      obtain ⟨x5, t5, r5⟩ := g5
      obtain ⟨x6, t6, r6⟩ := g6
      have z := same_new (o := .tup [V.str "caps", v2, v5, v3, v6]) ht
      have s56 := (d4.tle s5).tr (d5.tle s6)
      exact k _ _ (((sb4.tr s5).tr s6).tr (.of z)) (d6.same z) ⟨_, .tup upd_same (.cons (.str _) (.cons ((t2.le s56).same z) (.cons ((t5.le (d5.tle s6)).same z) (.cons ((t3.le s56).same z) (.cons (t6.same z) .nil))))), .caps r2 r3 r5 r6⟩
    refine ⟨_, rfl, p, _, _, rfl, d4.at, by decide, fun n5 H5 a5 b5 s5 e5 => ⟨_, rfl, by omega, by omega, fun Dd hD => ?_⟩⟩
    have d5 := d4.move s5 e5
    refine lc_draw (K := K) GRow GD.up d5 hD (Nat.le_trans (show _ ≤ 4 by omega) (by decide)) ?_ ?_
    · intro i H6 Q6 hi d6 q6
      exact ⟨_, rfl, _, rfl, a, p, xs, 1, rfl, d6, by omega, by omega, q6⟩
    · intro H6 acc s6 d6 hacc hl hg
      obtain ⟨rs, tg, rg⟩ := GD.list hg
      have lg := tg.length
      rw [List.length_map] at lg
      refine ⟨Dd, _, rfl, .inl ⟨SqL.of hacc, fun l hl => ⟨by show 2 ≤ sizeLine; decide, fun t ht => ?_⟩⟩⟩
      have z1 := same_new (o := .tup acc) hl
      have z2 := same_new (o := .tup [V.str "table", .ref l]) ht
      exact k _ _ (((sb4.tr s5).tr s6).tr (.of (z1.trans z2))) (d6.same (z1.trans z2)) ⟨_, .tup upd_same (.cons (.str _) (.cons (.tup (z2 _ _ upd_same) (tg.same (z1.trans z2))) .nil)), .table (by omega) rg⟩
abbrev GDeed : Hp → V → Prop := GD id DeedOk
abbrev sLawAnyDeed : Stmt := top 34
theorem scLawAnyDeed : FnScope ["_law_script", "_law_draws_here", "_law_kind", "_law_numbers_here", "_law_choice", "_law_k"] ["_law_script", "_law_draws_here"] (defScope sLawAnyDeed) := ⟨rfl, rfl, rfl, by decide +kernel, rfl, by decide +kernel, by decide +kernel⟩
theorem has__law_any_deed (T : Txt K w mg D) : Has P w K mg base "_law_any_deed" ["_law_script", "_law_draws_here"] 6 (spDraw K GDeed) := by
  have h__law_take : Has P w K mg base "_law_take" ["_law_draws_here", "_law_many"] 1 spTake := has__law_take T
  have h__law_number : Has P w K mg base "_law_number" ["_law_script", "_law_draws_here"] 2 (spDraw K GI) := has__law_number T
  have h__law_part : Has P w K mg base "_law_part" ["_law_script", "_law_draws_here"] 5 (spDraw K GPart) := has__law_part T
  refine T.d__law_any_deed.has scLawAnyDeed (fun vs H Q E h => ?_) (fun f cdv A outer s H vs Q E hr h => ?_)
  · obtain ⟨a, p, xs, rfl, _⟩ := h
    rfl
  · obtain ⟨a, p, xs, rfl, dw, k⟩ := h
    refine ⟨_, (pss_cons (ps_set (i := 2) scLawAnyDeed.nd rfl (by first | exact Or.inl rfl | exact Or.inr rfl) (pe_has h__law_take (hr.mono (by decide)) (pa_cons (pv 1) (pa_cons pe_int pa_nil))))
      (pss_cons (ps_setLc (i := 3) (own := [("_law_k", 5)]) rfl scLawAnyDeed.nd rfl rfl (sw_true rfl rfl rfl (by decide +kernel)) (pi_range1 (by rfl) T.range (pa_cons pe_int pa_nil)) (blkOk_by (own := [("_law_k", 5)]) (N := ["_law_script", "_law_draws_here", "_law_kind", "_law_numbers_here", "_law_choice", "_law_k"]) (sc := defScope sLawAnyDeed) (by decide +kernel)) (fun _ _ _ _ _ => pg_name (i := 5) scLawAnyDeed.nd rfl (Or.inl rfl)) (fun _ _ _ _ _ => pts_nil) (fun _ _ _ _ _ => (pe_has h__law_number (hr.mono (by decide)) (pa_cons (pv 0) (pa_cons (pv 1) pa_nil)))))
      (pss_cons (ps_if (pt_cmpR op_lt (pv 2) pe_int (nomark _)) (pss_cons (ps_set (i := 4) scLawAnyDeed.nd rfl (by first | exact Or.inl rfl | exact Or.inr rfl) (pe_has h__law_part (hr.mono (by decide)) (pa_cons (pv 0) (pa_cons (pv 1) pa_nil))))
      (pss_cons (ps_if (pt_cmpR op_eq (pe_has h__law_take (hr.mono (by decide)) (pa_cons (pv 1) (pa_cons pe_int pa_nil))) pe_int (nomark _)) (pss_one (ps_set (i := 4) scLawAnyDeed.nd rfl (by first | exact Or.inl rfl | exact Or.inr rfl) (pe_tup (pa_cons pe_str (pa_cons (pe_callTy call_tuple_of (by rfl) T.tuple (by decide +kernel) (pa_cons (pe_lc (own := [("_law_k", 5)]) rfl scLawAnyDeed.nd (pi_range1 (by rfl) T.range (pa_cons (pe_has h__law_take (hr.mono (by decide)) (pa_cons (pv 1) (pa_cons pe_int pa_nil))) pa_nil)) (blkOk_by (own := [("_law_k", 5)]) (N := ["_law_script", "_law_draws_here", "_law_kind", "_law_numbers_here", "_law_choice", "_law_k"]) (sc := defScope sLawAnyDeed) (by decide +kernel)) (fun _ _ _ _ _ => pg_name (i := 5) scLawAnyDeed.nd rfl (Or.inl rfl)) (fun _ _ _ _ _ => pts_nil) (fun _ _ _ _ _ => (pe_has h__law_part (hr.mono (by decide)) (pa_cons (pv 0) (pa_cons (pv 1) pa_nil))))) pa_nil)) pa_nil)))))
      pss_nil)
      (pss_one (ps_ret (pe_tup (pa_cons pe_str (pa_cons (pe_ix ix_list (pv 3) pe_int (fun _ _ => rfl)) (pa_cons (pv 4) pa_nil))))))))
      pss_nil)
      (pss_cons (ps_if (pt_cmpR op_eq (pv 2) pe_int (nomark _)) (pss_one (ps_ret (pe_tup (pa_cons pe_str (pa_cons (pe_ix ix_list (pv 3) pe_int (fun _ _ => rfl)) (pa_cons (pe_ix ix_list (pv 3) pe_int (fun _ _ => rfl)) (pa_cons (pe_ix ix_list (pv 3) pe_int (fun _ _ => rfl)) pa_nil)))))))
      pss_nil)
      (pss_cons (ps_if (pt_cmpR op_eq (pv 2) pe_int (nomark _)) (pss_one (ps_ret (pe_tup (pa_cons pe_str (pa_cons (pe_ix ix_list (pv 3) pe_int (fun _ _ => rfl)) pa_nil)))))
      pss_nil)
      (pss_one (ps_ret (pe_ix ix_list (pe_lst (pa_cons (pe_tup (pa_cons pe_str pa_nil)) (pa_cons (pe_tup (pa_cons pe_str pa_nil)) pa_nil))) (pe_op op_sub (pv 2) pe_int) (fun _ _ => rfl))))))))), ?_⟩
    refine ⟨_, rfl, p, _, _, rfl, dw.at, by decide, fun n1 H1 a1 b1 s1 e1 => ?_⟩
    have d1 := dw.move s1 e1
    refine ⟨3, rfl, by decide, by decide, fun L hL => lc_draw (K := K) (n := (3 : Int).toNat) GI GI.up d1 hL (by decide) ?_ ?_⟩
    · intro i H3 Q3 hi d3 q3
      exact ⟨_, rfl, _, rfl, a, p, xs, rfl, d3, q3⟩
    intro H2 acc s2 d2 hacc hl hg
    obtain ⟨ns, rfl, hs⟩ := GI.list hg
    rw [List.length_map] at hl
    obtain ⟨x0, x1, x2, rfl⟩ : ∃ x0 x1 x2 : Int, ns = [x0, x1, x2] := by
      match ns, hl with
      | [x0, x1, x2], _ => exact ⟨x0, x1, x2, rfl⟩
    have m0 : sm x0 := hs x0 (by simp)
    have m1 : sm x1 := hs x1 (by simp)
    have m2 : sm x2 := hs x2 (by simp)
    have sb2 := s1.tr s2
    have np : L ≠ p := d1.npD hL
    refine ⟨_, rfl, _, _, rfl, rfl, _, rfl, ?_⟩
    refine ite2 (fun _ => ?_) (fun c4 => ?_)
    · refine ⟨_, rfl, _, rfl, a, p, xs, rfl, d2, fun v3 H3 s3 d3 g3 => ?_⟩
      obtain ⟨c3, t3, r3⟩ := g3
      have hL3 := s3 _ _ np hacc
      refine ⟨_, rfl, p, _, _, rfl, d3.at, by decide, fun n4 H4 a4 b4 s4 e4 => ⟨rfl, _, rfl, ?_⟩⟩
      have d4 := d3.move s4 e4
      have hL4 := s4 _ _ np hL3
      refine ite2 (fun _ => ?_) (fun _ => ?_)
      · refine ⟨_, rfl, p, _, _, rfl, d4.at, by decide, fun n5 H5 a5 b5 s5 e5 => ⟨_, rfl, by omega, by omega, fun Dd hD => ?_⟩⟩
        have d5 := d4.move s5 e5
        refine lc_draw (K := K) GPart GD.up d5 hD (Nat.le_trans (show _ ≤ 4 by omega) (by decide)) ?_ ?_
        · intro i H6 Q6 hi d6 q6
          exact ⟨_, rfl, _, rfl, a, p, xs, rfl, d6, q6⟩
        · intro H6 acc s6 d6 hacc hl hg
          obtain ⟨rs, tg, rg⟩ := GD.list hg
          have lg := tg.length
          rw [List.length_map] at lg
          rw [List.map_id] at tg
          refine ⟨Dd, _, rfl, .inl ⟨SqL.of hacc, fun l hl => ⟨by show 2 ≤ sizeLine; decide, fun t ht => ?_⟩⟩⟩
          have z1 := same_new (o := .tup acc) hl
          have z2 := same_new (o := .tup [V.str "split", .ref l]) ht
          have hL6 := (z1.trans z2) _ _ (s6 _ _ np (s5 _ _ np hL4))
          refine ⟨_, rfl, L, _, 0, _, rfl, rfl, SqL.of hL6, rfl, _, rfl, by show 3 ≤ sizeLine; decide, fun u hu => ?_⟩
          have z3 := same_new (o := .tup [V.str "choose", .int x0, .ref t]) hu
          have z := z1.trans (z2.trans z3)
          refine k _ _ (((((sb2.tr s3).tr s4).tr s5).tr s6).tr (.of z)) (d6.same z) ⟨_, .tup upd_same (.cons (.str _) (.cons (.int _) (.cons (.tup (z3 _ _ upd_same) (.cons (.str _) (.cons (.tup (z3 _ _ (z2 _ _ upd_same)) (tg.same z)) .nil))) .nil))), .choose m0 (.split (by omega) rg)⟩
      · refine ⟨_, rfl, L, _, 0, _, rfl, rfl, SqL.of hL4, rfl, _, rfl, by show 3 ≤ sizeLine; decide, fun u hu => ?_⟩
        have z := same_new (o := .tup [V.str "choose", .int x0, v3]) hu
        exact k _ _ (((sb2.tr s3).tr s4).tr (.of z)) (d4.same z) ⟨_, .tup upd_same (.cons (.str _) (.cons (.int _) (.cons ((t3.le (d3.tle s4)).same z) .nil))), .choose m0 (.part r3)⟩
    refine ⟨_, rfl, rfl, _, rfl, ?_⟩
    rw [intEq]
    refine ite2 (fun _ => ?_) (fun c5 => ?_)
    · refine ⟨_, rfl, L, _, 0, _, rfl, rfl, SqL.of hacc, rfl, _, rfl, L, _, 1, _, rfl, rfl, SqL.of hacc, rfl, _, rfl, L, _, 2, _, rfl, rfl, SqL.of hacc, rfl, by show 4 ≤ sizeLine; decide, fun u hu => ?_⟩
      have z := same_new (o := .tup [V.str "offer", .int x0, .int x1, .int x2]) hu
      exact k _ _ (sb2.tr (.of z)) (d2.same z) ⟨_, .tup upd_same (.cons (.str _) (TpA.ints [x0, x1, x2])), .plain (.inl rfl) (by simp) hs⟩
    refine ⟨_, rfl, rfl, _, rfl, ?_⟩
    rw [intEq]
    refine ite2 (fun _ => ?_) (fun c6 => ?_)
    · refine ⟨_, rfl, L, _, 0, _, rfl, rfl, SqL.of hacc, rfl, by show 2 ≤ sizeLine; decide, fun u hu => ?_⟩
      have z := same_new (o := .tup [V.str "cancel", .int x0]) hu
      exact k _ _ (sb2.tr (.of z)) (d2.same z) ⟨_, .tup upd_same (.cons (.str _) (TpA.ints [x0])), .plain (.inr (.inl rfl)) (by simp) (fun n hn => by rw [List.mem_singleton.mp hn]; exact m0)⟩
    have hk : n1 = 6 ∨ n1 = 7 := by
      have c4 : ¬ n1 < 4 := fun z => c4 (decide_eq_true z)
      have c5 : ¬ n1 = 4 := fun z => c5 (decide_eq_true z)
      have c6 : ¬ n1 = 5 := fun z => c6 (decide_eq_true z)
      omega
    refine ⟨by show 1 ≤ sizeLine; decide, fun t1 h1 => ⟨by show 1 ≤ sizeLine; decide, fun t2 h2 => ⟨by show 2 ≤ sizeLine; decide, fun l hl => ⟨_, rfl, _, _, rfl, rfl, ?_⟩⟩⟩⟩
    have z1 := same_new (o := .tup [V.str "undo"]) h1
    have z2 := same_new (o := .tup [V.str "redo"]) h2
    have z3 := same_new (o := .lst [V.ref t1, .ref t2]) hl
    have z := z1.trans (z2.trans z3)
    rcases hk with e | e <;> subst e
    · exact ⟨l, _, 0, .ref t1, rfl, rfl, SqL.of upd_same, rfl, k _ _ (sb2.tr (.of z)) (d2.same z) ⟨_, .tup (z3 _ _ (z2 _ _ upd_same)) (.cons (.str _) (TpA.ints [])), .plain (.inr (.inr (.inl rfl))) (by simp) (fun n hn => by simp at hn)⟩⟩
    · exact ⟨l, _, 1, .ref t2, rfl, rfl, SqL.of upd_same, rfl, k _ _ (sb2.tr (.of z)) (d2.same z) ⟨_, .tup (z3 _ _ upd_same) (.cons (.str _) (TpA.ints [])), .plain (.inr (.inr (.inr rfl))) (by simp) (fun n hn => by simp at hn)⟩⟩
end
end K99

/-! K99D5 -/
set_option Elab.async false
set_option linter.all false
set_option maxRecDepth 100000
set_option maxHeartbeats 2000000
namespace K99
open PySem L2 TL
open PyProof.Rows (envOfC)
/-- a word of a made line -/
def Wd (w : Str) : Prop := w.length ≤ 62 ∧ ∀ c ∈ tl w, c < 128
def BW (n : Nat) (ws : List Str) : Prop := ws.length ≤ n ∧ ∀ w ∈ ws, Wd w
theorem BW.app {n m : Nat} {a b : List Str} (h : BW n a) (g : BW m b) : BW (n + m) (a ++ b) := by
  refine ⟨?_, fun w hw => (List.mem_append.mp hw).elim (h.2 w) (g.2 w)⟩
  have h1 := h.1
  have g1 := g.1
  rw [List.length_append]
  omega
theorem BW.mono {n m : Nat} {a : List Str} (h : BW n a) (k : n ≤ m) : BW m a := ⟨Nat.le_trans h.1 k, h.2⟩
def wdB (w : Str) : Bool := decide (w.length ≤ 62) && (tl w).all fun c => decide (c < 128)
theorem wd_of {w : Str} (h : wdB w = true) : Wd w := by
  unfold wdB at h
  rw [Bool.and_eq_true] at h
  exact ⟨of_decide_eq_true h.1, fun c hc => of_decide_eq_true (List.all_eq_true.mp h.2 c hc)⟩
theorem bw_of {ws : List Str} (h : ws.all wdB = true) : BW ws.length ws := ⟨Nat.le_refl _, fun w hw => wd_of (List.all_eq_true.mp h w hw)⟩
def numS (n : Int) : Str := Str.ofString (toString n)
theorem wd_num {n : Int} (h : sm n) : Wd (numS n) := by
  refine ⟨?_, fun c hc => PySem.W.KSb.asc_num n c hc⟩
  have e := int_text_length_le10 (k := 60) (by decide) h
  show (Str.ofString (toString n)).length ≤ 62
  rw [ofString_length]
  omega
theorem log_num {n : Int} (h : sm n) : n.natAbs.log2 < 1920 := by
  unfold sm at h
  by_cases h0 : n.natAbs = 0
  · rw [h0]
    decide
  · exact (Nat.log2_lt h0).mpr (Nat.lt_of_lt_of_le h (by decide +kernel))
theorem bw1 {w : Str} (h : Wd w) : BW 1 [w] := ⟨Nat.le_refl _, fun x hx => by rw [List.mem_singleton.mp hx]; exact h⟩
theorem bwc {n : Nat} {w : Str} {ws : List Str} (h : Wd w) (g : BW n ws) : BW (n + 1) (w :: ws) := ⟨Nat.succ_le_succ g.1, fun x hx => (List.mem_cons.mp hx).elim (fun e => by rw [e]; exact h) (g.2 x)⟩
theorem sqT_same {K : PySem.W.Frag} {H H' : Hp} {a : Addr} {xs : List V} (e : Same H H') (h : SqT K H a xs) : SqT K H' a xs := by
  rcases h with (h | ⟨o, h⟩) | h
  · exact .inl (.inl (e _ _ h))
  · exact .inl (.inr ⟨o, e _ _ h⟩)
  · exact .inr h
/-- two lists of words put together -/
theorem catW {H : Hp} {a b : Addr} {as bs : List Str} {Q : VK} (ha : Wl H a as) (hb : Wl H b bs) (hl : as.length + bs.length ≤ 30000) (k : ∀ (p : Addr) (H' : Hp), Same H H' → Wl H' p (as ++ bs) → Q (.ref p) H') : rCat (.ref a) (.ref b) H Q :=
  ⟨a, b, _, _, rfl, rfl, ha, hb, by rw [List.length_map, List.length_map]; exact Nat.le_trans hl (by decide), fun p hp => k p _ (same_new hp) (by rw [← List.map_append]; exact upd_same)⟩
/-- what the elements of a comprehension over a tuple are worth, in words -/
theorem lc_words {K : PySem.W.Frag} {a : Addr} {xs : List V} {i0 : Nat} {te : TE} {σ : L2.St} {H1 : Hp} {D : Addr} {Qd : Hp → Prop} (hS : SqT K H1 a xs) (hD : H1 D = none) (hz : xs.length ≤ 30000)
    (hs : ∀ (x : V) (H : Hp) (Q : VK), x ∈ xs → (∀ w : Str, Wd w → Q (.str w) H) → te ((σ.set i0 none).set i0 (some x)) H Q)
    (hd : ∀ (H : Hp) (ws : List Str), Same H1 H → Wl H D ws → BW xs.length ws → Qd H) :
    ∃ W : Nat → Nat → Hp → Prop, (∃ k0, W 0 k0 (upd H1 D (.lst []))) ∧ ∀ i k0 H, W i k0 H →
      ((Itt K a).stop i H ∧ Qd H) ∨ ((Itt K a).go i H ∧ ∃ Nx : Hp → Prop, (∀ H', Nx H' → ∃ k1, k1 < k0 ∧ W (i + 1) k1 H') ∧ ∀ x H', (Itt K a).yld i H x H' → gName i0 x (wipe σ [i0]) H' fun σ2 H2 => wipe σ2 [i0] = wipe σ [i0] ∧ tYes σ2 H2 fun b H3 =>
        if b = true then te σ2 H3 fun y H4 => ∃ ac, H4 D = some (.lst ac) ∧ ac.length < sizeLine ∧ Nx (upd H4 D (.lst (ac ++ [y]))) else Nx H3) := by
  refine lc_it (walk_tup (K := K) (a := a) (xs := xs)) (fun i H => Same H1 H ∧ ∃ ws : List Str, Wl H D ws ∧ ws.length = i ∧ ∀ w ∈ ws, Wd w) ⟨same_own (Same.refl _) hD, [], upd_same, rfl, fun y hy => by simp at hy⟩ (fun i H _ h => sqT_same h.1 hS) ?_ ?_
  · rintro i x H H' hi ⟨s1, ws, hw, hl, hg⟩ ⟨eH, hx⟩
    subst eH
    refine ⟨?_, ?_⟩
    · show ((σ.set i0 none).set i0 (some _)).set i0 none = σ.set i0 none
      rw [List.set_set, List.set_set]
    · unfold tYes
      dsimp only
      refine iteT (hs x _ _ (List.mem_of_getElem? hx) fun w gw => ⟨_, hw, ?_, same_own s1 hD, ws ++ [w], ?_, by rw [List.length_append, hl]; rfl, fun z hz => ?_⟩)
      · rw [List.length_map]
        exact Nat.lt_of_le_of_lt (show _ ≤ 30000 by omega) (by decide)
      · unfold Wl
        rw [upd_same, List.map_append]
        rfl
      · rcases List.mem_append.mp hz with hz | hz
        · exact hg z hz
        · rw [List.mem_singleton.mp hz]
          exact gw
  · rintro H ⟨s1, ws, hw, hl, hg⟩
    exact hd H ws s1 hw ⟨Nat.le_of_eq hl, hg⟩
section
variable {P : Program} {w : World} {K : PySem.W.Frag} {mg : Str → Option Value} {base : Heap} {D : Addr}
abbrev sLawTexts : Stmt := top 35
theorem scLawTexts : FnScope ["_law_numbers_here", "_law_number_here"] ["_law_numbers_here"] (defScope sLawTexts) := ⟨rfl, rfl, rfl, by decide +kernel, rfl, by decide +kernel, by decide +kernel⟩
def spTexts : Sp := fun vs H Q _ => ∃ (v : V) (ns : List Int), vs = [v] ∧ Tp H v (tupI ns) ∧ Row ns ∧ ∀ (q : Addr) (H' : Hp) (ws : List Str), Same H H' → Wl H' q ws → BW 30 ws → Q (.ref q) H'
theorem has__law_texts (T : Txt K w mg D) : Has P w K mg base "_law_texts" ["_law_numbers_here"] 1 spTexts := by
  refine T.d__law_texts.has scLawTexts (fun vs H Q E h => ?_) (fun f cdv A outer s H vs Q E hr h => ?_)
  · obtain ⟨v, ns, rfl, _⟩ := h
    rfl
  · obtain ⟨v, ns, rfl, ht, ⟨r1, r2⟩, k⟩ := h
    obtain ⟨t, rfl, hT⟩ := ht.tupI
    refine ⟨_, (pss_one (ps_ret (pe_lc (own := [("_law_number_here", 1)]) rfl scLawTexts.nd (pi_tup (pv 0)) (blkOk_by (own := [("_law_number_here", 1)]) (N := ["_law_numbers_here", "_law_number_here"]) (sc := defScope sLawTexts) (by decide +kernel)) (fun _ _ _ _ _ => pg_name (i := 1) scLawTexts.nd rfl (Or.inl rfl)) (fun _ _ _ _ _ => pts_nil) (fun _ _ _ _ _ => (pe_callTy call_str_int (by rfl) T.str (by decide +kernel) (pa_cons (pv 1) pa_nil)))))), ?_⟩
    refine ⟨_, rfl, t, rfl, ⟨_, SqT.of hT⟩, fun Dd hD => lc_words (K := K) (SqT.of hT) hD (by rw [List.length_map]; omega) ?_ ?_⟩
    · intro x H2 Q2 hx q2
      obtain ⟨n, hn, rfl⟩ := List.mem_map.mp hx
      exact ⟨_, rfl, _, rfl, log_num (r2 n hn), q2 _ (wd_num (r2 n hn))⟩
    · intro H2 ws s2 hw bw
      rw [List.length_map] at bw
      exact k Dd H2 ws s2 hw (bw.mono r1)
abbrev sLawGroupWords : Stmt := top 36
theorem scLawGroupWords : FnScope ["_law_groups", "_law_words_here", "_law_pair"] ["_law_groups"] (defScope sLawGroupWords) := ⟨rfl, rfl, rfl, by decide +kernel, rfl, by decide +kernel, by decide +kernel⟩
def spGW : Sp := fun vs H Q _ => ∃ (v : V) (gs : List (List Int × Int)), vs = [v] ∧ Tp H v (gsD gs) ∧ Grp gs ∧ ∀ (q : Addr) (H' : Hp) (ws : List Str), Same H H' → Wl H' q ws → BW 66 ws → Q (.ref q) H'
theorem has__law_group_words (T : Txt K w mg D) : Has P w K mg base "_law_group_words" ["_law_groups"] 2 spGW := by
  have h__law_texts : Has P w K mg base "_law_texts" ["_law_numbers_here"] 1 spTexts := has__law_texts T
  refine T.d__law_group_words.has scLawGroupWords (fun vs H Q E h => ?_) (fun f cdv A outer s H vs Q E hr h => ?_)
  · obtain ⟨v, ns, rfl, _⟩ := h
    rfl
  · obtain ⟨v, gs, rfl, ht, ⟨g1, g2⟩, k⟩ := h
    refine ⟨_, (pss_cons (ps_set (i := 1) scLawGroupWords.nd rfl (by first | exact Or.inl rfl | exact Or.inr rfl) (pe_lst pa_nil))
      (pss_cons (ps_for PassesOwn.never rfl (pi_tup (pv 0)) (pg_name (i := 2) scLawGroupWords.nd rfl (Or.inl rfl))
      (pss_one (ps_set (i := 1) scLawGroupWords.nd rfl (by first | exact Or.inl rfl | exact Or.inr rfl) (pe_op op_cat (pe_op op_cat (pv 1) (pe_lst (pa_cons pe_str (pa_cons (pe_callTy call_str_int (by rfl) T.str (by decide +kernel) (pa_cons (pe_ix ix_tup (pv 2) pe_int (fun _ _ => rfl)) pa_nil)) (pa_cons pe_str pa_nil))))) (pe_has h__law_texts (hr.mono (by decide)) (pa_cons (pe_ix ix_tup (pv 2) pe_int (fun _ _ => rfl)) pa_nil))))))
      (pss_one (ps_ret (pv 1))))), ?_⟩
    unfold gsD at ht
    cases ht with
    | @tup t xs _ hT hA =>
    have lx := hA.length
    rw [List.length_map] at lx
    refine ⟨Nat.zero_le _, fun q hq => ?_⟩
    have s0 := same_new (o := .lst []) hq
    refine ⟨_, rfl, t, rfl, ⟨_, SqT.of (s0 _ _ hT)⟩, for_it (walk_tup (K := K) (a := t) (xs := xs)) (fun i σ H' => ∃ (q : Addr) (ws : List Str) (v2 : Option V), σ = [some (.ref t), some (.ref q), v2] ∧ Same H H' ∧ Wl H' q ws ∧ BW (33 * i) ws) ⟨q, [], none, rfl, s0, upd_same, Nat.zero_le _, fun w hw => by simp at hw⟩
      (fun i σ H' _ ⟨_, _, _, _, s, _⟩ => SqT.of (s _ _ hT)) ?_ ?_⟩
    · rintro i x σ H2 H3 hi ⟨q, ws, v2, rfl, s2, hw, bw⟩ ⟨rfl, hx⟩
      obtain ⟨d, hd⟩ : ∃ d, (gs.map grpD)[i]? = some d := ⟨_, List.getElem?_eq_getElem (by rw [List.length_map]; omega)⟩
      obtain ⟨y, hy, ty⟩ := hA.get hd
      rw [hx] at hy
      have hy := Option.some.inj hy
      subst hy
      rw [List.getElem?_map] at hd
      obtain ⟨g, hg, rfl⟩ := Option.map_eq_some_iff.mp hd
      obtain ⟨rg, sg⟩ := g2 g (List.mem_of_getElem? hg)
      cases ty with
      | @tup u ys _ hU hB =>
      cases hB with
      | cons tg hB =>
      cases hB with
      | cons tn hB =>
      cases tn
      cases hB
      have hU2 := s2 _ _ hU
      have bw3 : BW 3 [("cap" : Str), numS g.2, ("of" : Str)] := bwc (wd_of (by decide +kernel)) (bwc (wd_num sg) (bw1 (wd_of (by decide +kernel))))
      have lw := bw.1
      refine ⟨_, rfl, _, rfl, u, _, 1, _, rfl, rfl, SqT.of hU2, rfl, _, rfl, log_num sg, by show 3 ≤ sizeLine; decide, fun q2 hq2 => ?_⟩
      have z2 := same_new (o := .lst [V.str "cap", .str (numS g.2), .str "of"]) hq2
      refine catW (hw.same z2) (bs := [("cap" : Str), numS g.2, ("of" : Str)]) upd_same (by show ws.length + 3 ≤ 30000; omega) fun q3 H3 s3 hw3 => ?_
      have hU3 := s3 _ _ (z2 _ _ hU2)
      have tg3 := ((tg.same s2).same z2).same s3
      refine ⟨_, rfl, u, _, 0, _, rfl, rfl, SqT.of hU3, rfl, _, _, rfl, tg3, rg, fun q4 H4 ws4 s4 hw4 bw4 => ?_⟩
      have l3 := (bw.app bw3).1
      have l4 := bw4.1
      refine catW (hw3.same s4) hw4 (by omega) fun q5 H5 s5 hw5 => ?_
      exact ⟨q5, _, _, rfl, s2.trans (z2.trans (s3.trans (s4.trans s5))), hw5, ((bw.app bw3).app bw4).mono (by omega)⟩
    · rintro σ H2 ⟨q, ws, v2, rfl, s2, hw, bw⟩
      exact ⟨_, rfl, k q H2 ws s2 hw (bw.mono (by omega))⟩
end
end K99

/-! K99D6 -/
set_option Elab.async false
set_option linter.all false
set_option maxRecDepth 100000
set_option maxHeartbeats 2000000
namespace K99
open PySem L2 TL
open PyProof.Rows (envOfC)
theorem iteTb {c : Bool} {A B : Prop} (h : c = true) (g : A) : if c = true then A else B := by
  rw [h]
  exact iteT g
section
variable {P : Program} {w : World} {K : PySem.W.Frag} {mg : Str → Option Value} {base : Heap} {D : Addr}
abbrev sLawChoiceWords : Stmt := top 37
theorem scLawChoiceWords : FnScope ["_law_choice", "_law_words_here", "_law_part_here", "_law_row"] ["_law_choice"] (defScope sLawChoiceWords) := ⟨rfl, rfl, rfl, by decide +kernel, rfl, by decide +kernel, by decide +kernel⟩
def spCW (n : Nat) (G : PyData → Prop) : Sp := fun vs H Q _ => ∃ (v : V) (d : PyData), vs = [v] ∧ Tp H v d ∧ G d ∧ ∀ (q : Addr) (H' : Hp) (ws : List Str), Same H H' → Wl H' q ws → BW n ws → Q (.ref q) H'
theorem cw_step (T : Txt K w mg D) {n k0 : Nat} {G : PyData → Prop} {spR : Sp} (h__law_choice_words : Has P w K mg base "_law_choice_words" ["_law_choice"] k0 spR)
    (hG : ∀ d, G d → (PartOk d ∧ 195 ≤ n) ∨ ∃ ps : List PyData, d = .tuple [.str "split", .tuple ps] ∧ ps.length ≤ 3 ∧ (∀ d ∈ ps, PartOk d) ∧ spR = spCW 195 PartOk ∧ 589 ≤ n) : Has P w K mg base "_law_choice_words" ["_law_choice"] (k0 + 2 + 1) (spCW n G) := by
  have h__law_texts : Has P w K mg base "_law_texts" ["_law_numbers_here"] 1 spTexts := has__law_texts T
  have h__law_group_words : Has P w K mg base "_law_group_words" ["_law_groups"] 2 spGW := has__law_group_words T
  refine T.d__law_choice_words.has scLawChoiceWords (fun vs H Q E h => ?_) (fun f cdv A outer s H vs Q E hr h => ?_)
  · obtain ⟨v, ns, rfl, _⟩ := h
    rfl
  · obtain ⟨v, d, rfl, ht, hd, k⟩ := h
    refine ⟨_, (pss_cons (ps_set (i := 1) scLawChoiceWords.nd rfl (by first | exact Or.inl rfl | exact Or.inr rfl) (pe_lst (pa_cons (pe_ix ix_tup (pv 0) pe_int (fun _ _ => rfl)) pa_nil)))
      (pss_cons (ps_if (pt_cmpR op_eq (pe_ix ix_tup (pv 0) pe_int (fun _ _ => rfl)) pe_str (nomark _)) (pss_cons (ps_for PassesOwn.never rfl (pi_tup (pe_ix ix_tup (pv 0) pe_int (fun _ _ => rfl))) (pg_name (i := 2) scLawChoiceWords.nd rfl (Or.inl rfl))
      (pss_one (ps_set (i := 1) scLawChoiceWords.nd rfl (by first | exact Or.inl rfl | exact Or.inr rfl) (pe_op op_cat (pe_op op_cat (pv 1) (pe_lst (pa_cons pe_str pa_nil))) (pe_has h__law_choice_words (hr.mono (by omega)) (pa_cons (pv 2) pa_nil))))))
      (pss_one (ps_ret (pv 1))))
      pss_nil)
      (pss_cons (ps_if (pt_cmpR op_eq (pe_ix ix_tup (pv 0) pe_int (fun _ _ => rfl)) pe_str (nomark _)) (pss_cons (ps_for PassesOwn.never rfl (pi_tup (pe_ix ix_tup (pv 0) pe_int (fun _ _ => rfl))) (pg_name (i := 3) scLawChoiceWords.nd rfl (Or.inl rfl))
      (pss_one (ps_set (i := 1) scLawChoiceWords.nd rfl (by first | exact Or.inl rfl | exact Or.inr rfl) (pe_op op_cat (pe_op op_cat (pv 1) (pe_lst (pa_cons pe_str pa_nil))) (pe_has h__law_texts (hr.mono (by omega)) (pa_cons (pv 3) pa_nil))))))
      (pss_one (ps_ret (pv 1))))
      pss_nil)
      (pss_cons (ps_if (pt_cmpR op_eq (pe_ix ix_tup (pv 0) pe_int (fun _ _ => rfl)) pe_str (nomark _)) (pss_cons (ps_set (i := 1) scLawChoiceWords.nd rfl (by first | exact Or.inl rfl | exact Or.inr rfl) (pe_op op_cat (pe_op op_cat (pe_op op_cat (pv 1) (pe_lst (pa_cons pe_str pa_nil))) (pe_has h__law_texts (hr.mono (by omega)) (pa_cons (pe_ix ix_tup (pv 0) pe_int (fun _ _ => rfl)) pa_nil))) (pe_has h__law_group_words (hr.mono (by omega)) (pa_cons (pe_ix ix_tup (pv 0) pe_int (fun _ _ => rfl)) pa_nil))))
      (pss_one (ps_ret (pe_op op_cat (pe_op op_cat (pe_op op_cat (pv 1) (pe_lst (pa_cons pe_str pa_nil))) (pe_has h__law_texts (hr.mono (by omega)) (pa_cons (pe_ix ix_tup (pv 0) pe_int (fun _ _ => rfl)) pa_nil))) (pe_has h__law_group_words (hr.mono (by omega)) (pa_cons (pe_ix ix_tup (pv 0) pe_int (fun _ _ => rfl)) pa_nil))))))
      pss_nil)
      (pss_cons (ps_if (pt_cmpR op_eq (pe_ix ix_tup (pv 0) pe_int (fun _ _ => rfl)) pe_str (nomark _)) (pss_one (ps_set (i := 1) scLawChoiceWords.nd rfl (by first | exact Or.inl rfl | exact Or.inr rfl) (pe_op op_cat (pe_op op_cat (pe_op op_cat (pv 1) (pe_lst (pa_cons (pe_callTy call_str_int (by rfl) T.str (by decide +kernel) (pa_cons (pe_ix ix_tup (pv 0) pe_int (fun _ _ => rfl)) pa_nil)) (pa_cons pe_str pa_nil)))) (pe_has h__law_texts (hr.mono (by omega)) (pa_cons (pe_ix ix_tup (pv 0) pe_int (fun _ _ => rfl)) pa_nil))) (pe_lst (pa_cons (pe_callTy call_str_int (by rfl) T.str (by decide +kernel) (pa_cons (pe_ix ix_tup (pv 0) pe_int (fun _ _ => rfl)) pa_nil)) pa_nil)))))
      (pss_one (ps_if (pt_cmpR op_eq (pe_ix ix_tup (pv 0) pe_int (fun _ _ => rfl)) pe_str (nomark _)) (pss_one (ps_set (i := 1) scLawChoiceWords.nd rfl (by first | exact Or.inl rfl | exact Or.inr rfl) (pe_op op_cat (pe_op op_cat (pv 1) (pe_lst (pa_cons (pe_callTy call_str_int (by rfl) T.str (by decide +kernel) (pa_cons (pe_ix ix_tup (pv 0) pe_int (fun _ _ => rfl)) pa_nil)) (pa_cons pe_str pa_nil)))) (pe_has h__law_texts (hr.mono (by omega)) (pa_cons (pe_ix ix_tup (pv 0) pe_int (fun _ _ => rfl)) pa_nil)))))
      (pss_one (ps_set (i := 1) scLawChoiceWords.nd rfl (by first | exact Or.inl rfl | exact Or.inr rfl) (pe_op op_cat (pe_op op_cat (pv 1) (pe_lst (pa_cons (pe_callTy call_str_int (by rfl) T.str (by decide +kernel) (pa_cons (pe_ix ix_tup (pv 0) pe_int (fun _ _ => rfl)) pa_nil)) (pa_cons (pe_callTy call_str_int (by rfl) T.str (by decide +kernel) (pa_cons (pe_ix ix_tup (pv 0) pe_int (fun _ _ => rfl)) pa_nil)) (pa_cons pe_str pa_nil))))) (pe_has h__law_texts (hr.mono (by omega)) (pa_cons (pe_ix ix_tup (pv 0) pe_int (fun _ _ => rfl)) pa_nil))))))))
      (pss_one (ps_ret (pe_op op_cat (pe_op op_cat (pv 1) (pe_lst (pa_cons pe_str pa_nil))) (pe_has h__law_texts (hr.mono (by omega)) (pa_cons (pe_ix ix_tup (pv 0) (pe_un un_neg pe_int) (fun _ _ => rfl)) pa_nil)))))))))), ?_⟩
    rcases hG d hd with ⟨hp, hn⟩ | hs
    · cases hp with
      | @maker r a b sr ra rb =>
        cases ht with
        | @tup t xs _ hT hA =>
        cases hA with
        | cons e0 hA =>
        cases hA with
        | cons e1 hA =>
        cases hA with
        | cons t2 hA =>
        cases hA with
        | cons t3 hA =>
        cases hA
        cases e0
        cases e1
        refine ⟨_, rfl, t, _, 0, _, rfl, rfl, SqT.of hT, rfl, by show 1 ≤ sizeLine; decide, fun q0 hq0 => ?_⟩
        have z0 := same_new (o := .lst [V.str "maker"]) hq0
        have hw0 : Wl (upd H q0 (.lst [V.str "maker"])) q0 [("maker" : Str)] := upd_same
        have bw0 : BW 1 [("maker" : Str)] := bw1 (wd_of (by decide +kernel))
        refine ⟨_, rfl, t, _, 0, _, rfl, rfl, SqT.of (z0 _ _ hT), rfl, rfl, _, rfl, ?_⟩
        rw [strD]
        refine iteFb (by decide +kernel) ?_
        refine ⟨_, rfl, t, _, 0, _, rfl, rfl, SqT.of (z0 _ _ hT), rfl, rfl, _, rfl, ?_⟩
        rw [strD]
        refine iteFb (by decide +kernel) ?_
        refine ⟨_, rfl, t, _, 0, _, rfl, rfl, SqT.of (z0 _ _ hT), rfl, rfl, _, rfl, ?_⟩
        rw [strD]
        refine iteFb (by decide +kernel) ?_
        refine ⟨_, rfl, t, _, 0, _, rfl, rfl, SqT.of (z0 _ _ hT), rfl, rfl, _, rfl, ?_⟩
        rw [strD]
        refine iteFb (by decide +kernel) ?_
        refine ⟨_, rfl, t, _, 0, _, rfl, rfl, SqT.of (z0 _ _ hT), rfl, rfl, _, rfl, ?_⟩
        rw [strD]
        refine iteTb (by decide +kernel) ?_
        refine ⟨_, rfl, _, rfl, t, _, 1, _, rfl, rfl, SqT.of (z0 _ _ hT), rfl, _, rfl, log_num sr, by show 2 ≤ sizeLine; decide, fun q1 hq1 => ?_⟩
        have y1 := same_new (o := .lst [V.str (numS r), V.str "buys"]) hq1
        refine catW (hw0.same y1) (bs := [numS r, ("buys" : Str)]) upd_same (by have := (bw0).1; simp only [List.length_cons, List.length_nil]; omega) fun p1 H1 s1 hw1 => ?_
        have z1 := z0.trans (y1.trans s1)
        have bz1 := bw0.app (show BW 2 [numS r, ("buys" : Str)] from bwc (wd_num sr) (bw1 (wd_of (by decide +kernel))))
        refine ⟨_, rfl, t, _, 2, _, rfl, rfl, SqT.of (z1 _ _ hT), rfl, _, _, rfl, t2.same z1, ra, fun q2 H2 ws2 s2 hx2 bx2 => ?_⟩
        refine catW (hw1.same s2) hx2 (by have := bz1.1; have := bx2.1; omega) fun p2 J2 u2 hw2 => ?_
        have z2 := z1.trans (s2.trans u2)
        have bz2 := bz1.app bx2
        refine ⟨_, rfl, by show 1 ≤ sizeLine; decide, fun q3 hq3 => ?_⟩
        have y3 := same_new (o := .lst [V.str "sells"]) hq3
        refine catW (hw2.same y3) (bs := [("sells" : Str)]) upd_same (by have := (bz2).1; simp only [List.length_cons, List.length_nil]; omega) fun p3 H3 s3 hw3 => ?_
        have z3 := z2.trans (y3.trans s3)
        have bz3 := bz2.app (show BW 1 [("sells" : Str)] from bw1 (wd_of (by decide +kernel)))
        refine ⟨_, rfl, 1, rfl, t, _, -1, _, rfl, rfl, SqT.of (z3 _ _ hT), rfl, _, _, rfl, t3.same z3, rb, fun q4 H4 ws4 s4 hx4 bx4 => ?_⟩
        refine catW (hw3.same s4) hx4 (by have := bz3.1; have := bx4.1; omega) fun p4 J4 u4 hw4 => ?_
        have z4 := z3.trans (s4.trans u4)
        have bz4 := bz3.app bx4
        exact k _ _ _ z4 hw4 (bz4.mono (by omega))
      | @sides r x a b sr sx ra rb =>
        cases ht with
        | @tup t xs _ hT hA =>
        cases hA with
        | cons e0 hA =>
        cases hA with
        | cons e1 hA =>
        cases hA with
        | cons t2 hA =>
        cases hA with
        | cons e3 hA =>
        cases hA with
        | cons t4 hA =>
        cases hA
        cases e0
        cases e1
        cases e3
        refine ⟨_, rfl, t, _, 0, _, rfl, rfl, SqT.of hT, rfl, by show 1 ≤ sizeLine; decide, fun q0 hq0 => ?_⟩
        have z0 := same_new (o := .lst [V.str "sides"]) hq0
        have hw0 : Wl (upd H q0 (.lst [V.str "sides"])) q0 [("sides" : Str)] := upd_same
        have bw0 : BW 1 [("sides" : Str)] := bw1 (wd_of (by decide +kernel))
        refine ⟨_, rfl, t, _, 0, _, rfl, rfl, SqT.of (z0 _ _ hT), rfl, rfl, _, rfl, ?_⟩
        rw [strD]
        refine iteFb (by decide +kernel) ?_
        refine ⟨_, rfl, t, _, 0, _, rfl, rfl, SqT.of (z0 _ _ hT), rfl, rfl, _, rfl, ?_⟩
        rw [strD]
        refine iteFb (by decide +kernel) ?_
        refine ⟨_, rfl, t, _, 0, _, rfl, rfl, SqT.of (z0 _ _ hT), rfl, rfl, _, rfl, ?_⟩
        rw [strD]
        refine iteFb (by decide +kernel) ?_
        refine ⟨_, rfl, t, _, 0, _, rfl, rfl, SqT.of (z0 _ _ hT), rfl, rfl, _, rfl, ?_⟩
        rw [strD]
        refine iteTb (by decide +kernel) ?_
        refine ⟨_, rfl, _, rfl, t, _, 1, _, rfl, rfl, SqT.of (z0 _ _ hT), rfl, _, rfl, log_num sr, by show 2 ≤ sizeLine; decide, fun q5 hq5 => ?_⟩
        have y5 := same_new (o := .lst [V.str (numS r), V.str "buys"]) hq5
        refine catW (hw0.same y5) (bs := [numS r, ("buys" : Str)]) upd_same (by have := (bw0).1; simp only [List.length_cons, List.length_nil]; omega) fun p5 H5 s5 hw5 => ?_
        have z5 := z0.trans (y5.trans s5)
        have bz5 := bw0.app (show BW 2 [numS r, ("buys" : Str)] from bwc (wd_num sr) (bw1 (wd_of (by decide +kernel))))
        refine ⟨_, rfl, t, _, 2, _, rfl, rfl, SqT.of (z5 _ _ hT), rfl, _, _, rfl, t2.same z5, ra, fun q6 H6 ws6 s6 hx6 bx6 => ?_⟩
        refine catW (hw5.same s6) hx6 (by have := bz5.1; have := bx6.1; omega) fun p6 J6 u6 hw6 => ?_
        have z6 := z5.trans (s6.trans u6)
        have bz6 := bz5.app bx6
        refine ⟨_, rfl, t, _, 3, _, rfl, rfl, SqT.of (z6 _ _ hT), rfl, _, rfl, log_num sx, by show 1 ≤ sizeLine; decide, fun q7 hq7 => ?_⟩
        have y7 := same_new (o := .lst [V.str (numS x)]) hq7
        refine catW (hw6.same y7) (bs := [numS x]) upd_same (by have := (bz6).1; simp only [List.length_cons, List.length_nil]; omega) fun p7 H7 s7 hw7 => ?_
        have z7 := z6.trans (y7.trans s7)
        have bz7 := bz6.app (show BW 1 [numS x] from bw1 (wd_num sx))
        refine ⟨_, rfl, by show 1 ≤ sizeLine; decide, fun q8 hq8 => ?_⟩
        have y8 := same_new (o := .lst [V.str "sells"]) hq8
        refine catW (hw7.same y8) (bs := [("sells" : Str)]) upd_same (by have := (bz7).1; simp only [List.length_cons, List.length_nil]; omega) fun p8 H8 s8 hw8 => ?_
        have z8 := z7.trans (y8.trans s8)
        have bz8 := bz7.app (show BW 1 [("sells" : Str)] from bw1 (wd_of (by decide +kernel)))
        refine ⟨_, rfl, 1, rfl, t, _, -1, _, rfl, rfl, SqT.of (z8 _ _ hT), rfl, _, _, rfl, t4.same z8, rb, fun q9 H9 ws9 s9 hx9 bx9 => ?_⟩
        refine catW (hw8.same s9) hx9 (by have := bz8.1; have := bx9.1; omega) fun p9 J9 u9 hw9 => ?_
        have z9 := z8.trans (s9.trans u9)
        have bz9 := bz8.app bx9
        exact k _ _ _ z9 hw9 (bz9.mono (by omega))
      | @trader r x a b sr sx ra rb =>
        cases ht with
        | @tup t xs _ hT hA =>
        cases hA with
        | cons e0 hA =>
        cases hA with
        | cons e1 hA =>
        cases hA with
        | cons e2 hA =>
        cases hA with
        | cons t3 hA =>
        cases hA with
        | cons t4 hA =>
        cases hA
        cases e0
        cases e1
        cases e2
        refine ⟨_, rfl, t, _, 0, _, rfl, rfl, SqT.of hT, rfl, by show 1 ≤ sizeLine; decide, fun q0 hq0 => ?_⟩
        have z0 := same_new (o := .lst [V.str "trader"]) hq0
        have hw0 : Wl (upd H q0 (.lst [V.str "trader"])) q0 [("trader" : Str)] := upd_same
        have bw0 : BW 1 [("trader" : Str)] := bw1 (wd_of (by decide +kernel))
        refine ⟨_, rfl, t, _, 0, _, rfl, rfl, SqT.of (z0 _ _ hT), rfl, rfl, _, rfl, ?_⟩
        rw [strD]
        refine iteFb (by decide +kernel) ?_
        refine ⟨_, rfl, t, _, 0, _, rfl, rfl, SqT.of (z0 _ _ hT), rfl, rfl, _, rfl, ?_⟩
        rw [strD]
        refine iteFb (by decide +kernel) ?_
        refine ⟨_, rfl, t, _, 0, _, rfl, rfl, SqT.of (z0 _ _ hT), rfl, rfl, _, rfl, ?_⟩
        rw [strD]
        refine iteFb (by decide +kernel) ?_
        refine ⟨_, rfl, t, _, 0, _, rfl, rfl, SqT.of (z0 _ _ hT), rfl, rfl, _, rfl, ?_⟩
        rw [strD]
        refine iteFb (by decide +kernel) ?_
        refine ⟨_, rfl, t, _, 0, _, rfl, rfl, SqT.of (z0 _ _ hT), rfl, rfl, _, rfl, ?_⟩
        rw [strD]
        refine iteFb (by decide +kernel) ?_
        refine ⟨_, rfl, _, rfl, t, _, 1, _, rfl, rfl, SqT.of (z0 _ _ hT), rfl, _, rfl, log_num sr, _, rfl, t, _, 2, _, rfl, rfl, SqT.of (z0 _ _ hT), rfl, _, rfl, log_num sx, by show 3 ≤ sizeLine; decide, fun q10 hq10 => ?_⟩
        have y10 := same_new (o := .lst [V.str (numS r), V.str (numS x), V.str "buys"]) hq10
        refine catW (hw0.same y10) (bs := [numS r, numS x, ("buys" : Str)]) upd_same (by have := (bw0).1; simp only [List.length_cons, List.length_nil]; omega) fun p10 H10 s10 hw10 => ?_
        have z10 := z0.trans (y10.trans s10)
        have bz10 := bw0.app (show BW 3 [numS r, numS x, ("buys" : Str)] from bwc (wd_num sr) (bwc (wd_num sx) (bw1 (wd_of (by decide +kernel)))))
        refine ⟨_, rfl, t, _, 3, _, rfl, rfl, SqT.of (z10 _ _ hT), rfl, _, _, rfl, t3.same z10, ra, fun q11 H11 ws11 s11 hx11 bx11 => ?_⟩
        refine catW (hw10.same s11) hx11 (by have := bz10.1; have := bx11.1; omega) fun p11 J11 u11 hw11 => ?_
        have z11 := z10.trans (s11.trans u11)
        have bz11 := bz10.app bx11
        refine ⟨_, rfl, by show 1 ≤ sizeLine; decide, fun q12 hq12 => ?_⟩
        have y12 := same_new (o := .lst [V.str "sells"]) hq12
        refine catW (hw11.same y12) (bs := [("sells" : Str)]) upd_same (by have := (bz11).1; simp only [List.length_cons, List.length_nil]; omega) fun p12 H12 s12 hw12 => ?_
        have z12 := z11.trans (y12.trans s12)
        have bz12 := bz11.app (show BW 1 [("sells" : Str)] from bw1 (wd_of (by decide +kernel)))
        refine ⟨_, rfl, 1, rfl, t, _, -1, _, rfl, rfl, SqT.of (z12 _ _ hT), rfl, _, _, rfl, t4.same z12, rb, fun q13 H13 ws13 s13 hx13 bx13 => ?_⟩
        refine catW (hw12.same s13) hx13 (by have := bz12.1; have := bx13.1; omega) fun p13 J13 u13 hw13 => ?_
        have z13 := z12.trans (s13.trans u13)
        have bz13 := bz12.app bx13
        exact k _ _ _ z13 hw13 (bz13.mono (by omega))
      | caps ra rb rg rh =>
        cases ht with
        | @tup t xs _ hT hA =>
        cases hA with
        | cons e0 hA =>
        cases hA with
        | cons t1 hA =>
        cases hA with
        | cons t2 hA =>
        cases hA with
        | cons t3 hA =>
        cases hA with
        | cons t4 hA =>
        cases hA
        cases e0
        refine ⟨_, rfl, t, _, 0, _, rfl, rfl, SqT.of hT, rfl, by show 1 ≤ sizeLine; decide, fun q0 hq0 => ?_⟩
        have z0 := same_new (o := .lst [V.str "caps"]) hq0
        have hw0 : Wl (upd H q0 (.lst [V.str "caps"])) q0 [("caps" : Str)] := upd_same
        have bw0 : BW 1 [("caps" : Str)] := bw1 (wd_of (by decide +kernel))
        refine ⟨_, rfl, t, _, 0, _, rfl, rfl, SqT.of (z0 _ _ hT), rfl, rfl, _, rfl, ?_⟩
        rw [strD]
        refine iteFb (by decide +kernel) ?_
        refine ⟨_, rfl, t, _, 0, _, rfl, rfl, SqT.of (z0 _ _ hT), rfl, rfl, _, rfl, ?_⟩
        rw [strD]
        refine iteFb (by decide +kernel) ?_
        refine ⟨_, rfl, t, _, 0, _, rfl, rfl, SqT.of (z0 _ _ hT), rfl, rfl, _, rfl, ?_⟩
        rw [strD]
        refine iteTb (by decide +kernel) ?_
        refine ⟨_, rfl, by show 1 ≤ sizeLine; decide, fun q14 hq14 => ?_⟩
        have y14 := same_new (o := .lst [V.str "buys"]) hq14
        refine catW (hw0.same y14) (bs := [("buys" : Str)]) upd_same (by have := (bw0).1; simp only [List.length_cons, List.length_nil]; omega) fun p14 H14 s14 hw14 => ?_
        have z14 := z0.trans (y14.trans s14)
        have bz14 := bw0.app (show BW 1 [("buys" : Str)] from bw1 (wd_of (by decide +kernel)))
        refine ⟨_, rfl, t, _, 1, _, rfl, rfl, SqT.of (z14 _ _ hT), rfl, _, _, rfl, t1.same z14, ra, fun q15 H15 ws15 s15 hx15 bx15 => ?_⟩
        refine catW (hw14.same s15) hx15 (by have := bz14.1; have := bx15.1; omega) fun p15 J15 u15 hw15 => ?_
        have z15 := z14.trans (s15.trans u15)
        have bz15 := bz14.app bx15
        refine ⟨_, rfl, t, _, 2, _, rfl, rfl, SqT.of (z15 _ _ hT), rfl, _, _, rfl, t2.same z15, rg, fun q16 H16 ws16 s16 hx16 bx16 => ?_⟩
        refine catW (hw15.same s16) hx16 (by have := bz15.1; have := bx16.1; omega) fun p16 J16 u16 hw16 => ?_
        have z16 := z15.trans (s16.trans u16)
        have bz16 := bz15.app bx16
        refine ⟨_, rfl, by show 1 ≤ sizeLine; decide, fun q17 hq17 => ?_⟩
        have y17 := same_new (o := .lst [V.str "sells"]) hq17
        refine catW (hw16.same y17) (bs := [("sells" : Str)]) upd_same (by have := (bz16).1; simp only [List.length_cons, List.length_nil]; omega) fun p17 H17 s17 hw17 => ?_
        have z17 := z16.trans (y17.trans s17)
        have bz17 := bz16.app (show BW 1 [("sells" : Str)] from bw1 (wd_of (by decide +kernel)))
        refine ⟨_, rfl, t, _, 3, _, rfl, rfl, SqT.of (z17 _ _ hT), rfl, _, _, rfl, t3.same z17, rb, fun q18 H18 ws18 s18 hx18 bx18 => ?_⟩
        refine catW (hw17.same s18) hx18 (by have := bz17.1; have := bx18.1; omega) fun p18 J18 u18 hw18 => ?_
        have z18 := z17.trans (s18.trans u18)
        have bz18 := bz17.app bx18
        refine ⟨_, rfl, t, _, 4, _, rfl, rfl, SqT.of (z18 _ _ hT), rfl, _, _, rfl, t4.same z18, rh, fun q19 H19 ws19 s19 hx19 bx19 => ?_⟩
        refine catW (hw18.same s19) hx19 (by have := bz18.1; have := bx19.1; omega) fun p19 J19 u19 hw19 => ?_
        have z19 := z18.trans (s19.trans u19)
        have bz19 := bz18.app bx19
        exact k _ _ _ z19 hw19 (bz19.mono (by omega))
      | @table rs l3 rr =>
        cases ht with
        | @tup t xs _ hT hA =>
        cases hA with
        | cons e0 hA =>
        cases hA with
        | cons t1 hA =>
        cases hA
        cases e0
        refine ⟨_, rfl, t, _, 0, _, rfl, rfl, SqT.of hT, rfl, by show 1 ≤ sizeLine; decide, fun q0 hq0 => ?_⟩
        have z0 := same_new (o := .lst [V.str "table"]) hq0
        have hw0 : Wl (upd H q0 (.lst [V.str "table"])) q0 [("table" : Str)] := upd_same
        have bw0 : BW 1 [("table" : Str)] := bw1 (wd_of (by decide +kernel))
        refine ⟨_, rfl, t, _, 0, _, rfl, rfl, SqT.of (z0 _ _ hT), rfl, rfl, _, rfl, ?_⟩
        rw [strD]
        refine iteFb (by decide +kernel) ?_
        refine ⟨_, rfl, t, _, 0, _, rfl, rfl, SqT.of (z0 _ _ hT), rfl, rfl, _, rfl, ?_⟩
        rw [strD]
        refine iteTb (by decide +kernel) ?_
        cases t1 with
        | @tup u ys _ hU hB =>
        have ly := hB.length
        rw [List.length_map] at ly
        refine ⟨_, rfl, t, _, 1, _, rfl, rfl, SqT.of (z0 _ _ hT), rfl, u, rfl, ⟨_, SqT.of (z0 _ _ hU)⟩, for_it (walk_tup (K := K) (a := u) (xs := ys)) (fun i σ H' => ∃ (q : Addr) (ws : List Str) (v2 : Option V), σ = [some (.ref t), some (.ref q), none, v2] ∧ Same H H' ∧ Wl H' q ws ∧ BW (1 + 31 * i) ws) ⟨_, _, none, rfl, z0, hw0, bw0⟩
          (fun i σ H' _ ⟨_, _, _, _, s, _⟩ => SqT.of (s _ _ hU)) ?_ ?_⟩
        · rintro i x σ H2 H3 hi ⟨q, ws, v2, rfl, z9, hw9, bw9⟩ ⟨rfl, hx⟩
          obtain ⟨d, hd⟩ : ∃ d, (rs.map tupI)[i]? = some d := ⟨_, List.getElem?_eq_getElem (by rw [List.length_map]; omega)⟩
          obtain ⟨y, hy, ty⟩ := hB.get hd
          rw [hx] at hy
          have hy := Option.some.inj hy
          subst hy
          rw [List.getElem?_map] at hd
          obtain ⟨r, hr2, rfl⟩ := Option.map_eq_some_iff.mp hd
          have okr := rr r (List.mem_of_getElem? hr2)
          refine ⟨_, rfl, by show 1 ≤ sizeLine; decide, fun q20 hq20 => ?_⟩
          have y20 := same_new (o := .lst [V.str "row"]) hq20
          refine catW (hw9.same y20) (bs := [("row" : Str)]) upd_same (by have := (bw9).1; simp only [List.length_cons, List.length_nil]; omega) fun p20 H20 s20 hw20 => ?_
          have z20 := z9.trans (y20.trans s20)
          have bz20 := bw9.app (show BW 1 [("row" : Str)] from bw1 (wd_of (by decide +kernel)))
          refine ⟨_, rfl, _, _, rfl, ty.same z20, okr, fun q21 H21 ws21 s21 hx21 bx21 => ?_⟩
          refine catW (hw20.same s21) hx21 (by have := bz20.1; have := bx21.1; omega) fun p21 J21 u21 hw21 => ?_
          have z21 := z20.trans (s21.trans u21)
          have bz21 := bz20.app bx21
          exact ⟨_, _, _, rfl, z21, hw21, bz21.mono (by omega)⟩
        · rintro σ H2 ⟨q, ws, v2, rfl, z9, hw9, bw9⟩
          exact ⟨_, rfl, k q H2 ws z9 hw9 (bw9.mono (by omega))⟩
    · obtain ⟨ps, rfl, l3, rr, eR, hn⟩ := hs
      subst eR
      cases ht with
      | @tup t xs _ hT hA =>
      cases hA with
      | cons e0 hA =>
      cases hA with
      | cons t1 hA =>
      cases hA
      cases e0
      refine ⟨_, rfl, t, _, 0, _, rfl, rfl, SqT.of hT, rfl, by show 1 ≤ sizeLine; decide, fun q0 hq0 => ?_⟩
      have z0 := same_new (o := .lst [V.str "split"]) hq0
      have hw0 : Wl (upd H q0 (.lst [V.str "split"])) q0 [("split" : Str)] := upd_same
      have bw0 : BW 1 [("split" : Str)] := bw1 (wd_of (by decide +kernel))
      refine ⟨_, rfl, t, _, 0, _, rfl, rfl, SqT.of (z0 _ _ hT), rfl, rfl, _, rfl, ?_⟩
      rw [strD]
      refine iteTb (by decide +kernel) ?_
      cases t1 with
      | @tup u ys _ hU hB =>
      have ly := hB.length
      skip
      refine ⟨_, rfl, t, _, 1, _, rfl, rfl, SqT.of (z0 _ _ hT), rfl, u, rfl, ⟨_, SqT.of (z0 _ _ hU)⟩, for_it (walk_tup (K := K) (a := u) (xs := ys)) (fun i σ H' => ∃ (q : Addr) (ws : List Str) (v2 : Option V), σ = [some (.ref t), some (.ref q), v2, none] ∧ Same H H' ∧ Wl H' q ws ∧ BW (1 + 196 * i) ws) ⟨_, _, none, rfl, z0, hw0, bw0⟩
        (fun i σ H' _ ⟨_, _, _, _, s, _⟩ => SqT.of (s _ _ hU)) ?_ ?_⟩
      · rintro i x σ H2 H3 hi ⟨q, ws, v2, rfl, z9, hw9, bw9⟩ ⟨rfl, hx⟩
        obtain ⟨d, hd⟩ : ∃ d, (ps)[i]? = some d := ⟨_, List.getElem?_eq_getElem (by omega)⟩
        obtain ⟨y, hy, ty⟩ := hB.get hd
        rw [hx] at hy
        have hy := Option.some.inj hy
        subst hy
        have okr := rr d (List.mem_of_getElem? hd)
        refine ⟨_, rfl, by show 1 ≤ sizeLine; decide, fun q22 hq22 => ?_⟩
        have y22 := same_new (o := .lst [V.str "part"]) hq22
        refine catW (hw9.same y22) (bs := [("part" : Str)]) upd_same (by have := (bw9).1; simp only [List.length_cons, List.length_nil]; omega) fun p22 H22 s22 hw22 => ?_
        have z22 := z9.trans (y22.trans s22)
        have bz22 := bw9.app (show BW 1 [("part" : Str)] from bw1 (wd_of (by decide +kernel)))
        refine ⟨_, rfl, _, _, rfl, ty.same z22, okr, fun q23 H23 ws23 s23 hx23 bx23 => ?_⟩
        refine catW (hw22.same s23) hx23 (by have := bz22.1; have := bx23.1; omega) fun p23 J23 u23 hw23 => ?_
        have z23 := z22.trans (s23.trans u23)
        have bz23 := bz22.app bx23
        exact ⟨_, _, _, rfl, z23, hw23, bz23.mono (by omega)⟩
      · rintro σ H2 ⟨q, ws, v2, rfl, z9, hw9, bw9⟩
        exact ⟨_, rfl, k q H2 ws z9 hw9 (bw9.mono (by omega))⟩
theorem has_cw_part (T : Txt K w mg D) : Has P w K mg base "_law_choice_words" ["_law_choice"] 3 (spCW 195 PartOk) :=
  cw_step T (k0 := 0) (spR := spNo) T.d__law_choice_words.no fun d h => .inl ⟨h, by omega⟩
theorem has_cw (T : Txt K w mg D) : Has P w K mg base "_law_choice_words" ["_law_choice"] 6 (spCW 589 ChoiceOk) :=
  cw_step T (k0 := 3) (has_cw_part T) fun d h => by
    cases h with
    | part hp => exact .inl ⟨hp, by omega⟩
    | @split ps l rr => exact .inr ⟨ps, rfl, l, rr, rfl, by omega⟩
end
end K99

/-! K99D7 -/
set_option Elab.async false
set_option linter.all false
set_option maxRecDepth 100000
set_option maxHeartbeats 2000000
namespace K99
open PySem L2 TL
open PyProof.Rows (envOfC)
/-! ### made texts -/
def Tx (n : Nat) (x : Str) : Prop := x.length ≤ n ∧ ∀ c ∈ tl x, c < 128
theorem Tx.mono {n m : Nat} {x : Str} (h : Tx n x) (k : n ≤ m) : Tx m x := ⟨Nat.le_trans h.1 k, h.2⟩
theorem joinL_len (S : List Nat) : ∀ ps : List (List Nat), (joinL S ps).length ≤ (ps.map List.length).sum + ps.length * S.length
  | [] => Nat.zero_le _
  | [p] => by
    show p.length ≤ _
    simp
  | p :: q :: r => by
    have ih := joinL_len S (q :: r)
    show (p ++ (S ++ joinL S (q :: r))).length ≤ _
    rw [List.length_append, List.length_append, List.map_cons, List.sum_cons, List.length_cons, Nat.succ_mul]
    omega
theorem joinL_mem (S : List Nat) : ∀ (ps : List (List Nat)) (c : Nat), c ∈ joinL S ps → c ∈ S ∨ ∃ p ∈ ps, c ∈ p
  | [], c, h => by simp [joinL] at h
  | [p], c, h => .inr ⟨p, List.mem_cons_self, h⟩
  | p :: q :: r, c, h => by
    have h : c ∈ p ++ (S ++ joinL S (q :: r)) := h
    rcases List.mem_append.mp h with h | h
    · exact .inr ⟨p, List.mem_cons_self, h⟩
    · rcases List.mem_append.mp h with h | h
      · exact .inl h
      · rcases joinL_mem S (q :: r) c h with h | ⟨p2, h1, h2⟩
        · exact .inl h
        · exact .inr ⟨p2, List.mem_cons_of_mem _ h1, h2⟩
/-- all signs of the words, and one more for each -/
def MW (ws : List Str) : Nat := (ws.map fun w => w.length + 1).sum
theorem MW_cons (w : Str) (ws : List Str) : MW (w :: ws) = w.length + 1 + MW ws := by simp [MW]
theorem MW_app (a b : List Str) : MW (a ++ b) = MW a + MW b := by simp [MW]
theorem MW_sum (m : Nat) (hm : m ≤ 1) : ∀ ws : List Str, (ws.map fun w => w.length).sum + ws.length * m ≤ MW ws
  | [] => by simp [MW]
  | w :: ws => by
    have ih := MW_sum m hm ws
    rw [MW_cons, List.map_cons, List.sum_cons, List.length_cons, Nat.succ_mul]
    omega
theorem MW_erase : ∀ (ws : List Str) (k : Nat), MW (ws.eraseIdx k) ≤ MW ws
  | [], k => by simp [MW]
  | w :: ws, 0 => by
    rw [List.eraseIdx_cons_zero, MW_cons]
    omega
  | w :: ws, k + 1 => by
    have := MW_erase ws k
    rw [List.eraseIdx_cons_succ, MW_cons, MW_cons]
    omega
theorem MW_ins (ws : List Str) (i : Nat) (y : Str) : MW (ws.take i ++ [y] ++ ws.drop i) = MW ws + y.length + 1 := by
  have h := MW_app (ws.take i) (ws.drop i)
  rw [List.take_append_drop] at h
  rw [MW_app, MW_app, h, MW_cons]
  simp [MW]
  omega
theorem MW_set : ∀ (ws : List Str) (k : Nat) (y : Str), MW (ws.set k y) ≤ MW ws + y.length + 1
  | [], k, y => by simp [MW]
  | w :: ws, 0, y => by
    rw [List.set_cons_zero, MW_cons, MW_cons]
    omega
  | w :: ws, k + 1, y => by
    have := MW_set ws k y
    rw [List.set_cons_succ, MW_cons, MW_cons]
    omega
theorem MW_split (x : Str) : MW (Txt.split x " ") = x.length + 1 := by
  have e := split_tl (x := x) tl_sp (by decide)
  have h := congrArg List.length (cutA_back 32 (tl x) [])
  rw [List.length_flatMap] at h
  have e2 : MW (Txt.split x " ") = ((cut 32 (tl x)).map fun p => (p ++ [32]).length).sum := by
    rw [← e, List.map_map]
    unfold MW
    congr 1
    refine List.map_congr_left fun w _ => ?_
    show w.length + 1 = (tl w ++ [32]).length
    rw [List.length_append, len_tl]
    rfl
  rw [e2]
  show (((cutA 32 [] (tl x)).map fun p => (p ++ [32]).length).sum) = _
  rw [h]
  simp [len_tl]
theorem MW_len : ∀ ws : List Str, ws.length ≤ MW ws
  | [] => by simp [MW]
  | w :: ws => by
    have := MW_len ws
    rw [MW_cons, List.length_cons]
    omega
theorem MW_mem : ∀ {ws : List Str} {w : Str}, w ∈ ws → w.length + 1 ≤ MW ws
  | v :: ws, w, h => by
    rw [MW_cons]
    rcases List.mem_cons.mp h with rfl | h
    · omega
    · have := MW_mem h
      omega
theorem tx_join {ws : List Str} {y : Str} {n : Nat} (hy : y.length ≤ 1) (ay : ∀ c ∈ tl y, c < 128) (h : MW ws ≤ n) (ha : ∀ w ∈ ws, ∀ c ∈ tl w, c < 128) : Tx n (Txt.join y ws) := by
  rw [join_eq]
  constructor
  · rw [len_tl, tl_join]
    refine Nat.le_trans (joinL_len _ _) (Nat.le_trans ?_ h)
    rw [List.map_map, List.length_map, ← len_tl]
    have e : (ws.map (List.length ∘ tl)) = ws.map fun w => w.length := List.map_congr_left fun w _ => (len_tl w).symm
    rw [e]
    exact MW_sum _ hy ws
  · intro c hc
    rw [tl_join] at hc
    rcases joinL_mem _ _ c hc with hc | ⟨p, hp, hc⟩
    · exact ay c hc
    · obtain ⟨w, hw, rfl⟩ := List.mem_map.mp hp
      exact ha w hw c hc
theorem tx_app {n m : Nat} {x y : Str} (h : Tx n x) (g : Tx m y) : Tx (n + m) (x ++ y) := by
  constructor
  · have h1 := h.1
    have g1 := g.1
    rw [len_tl, tl_append, List.length_append, ← len_tl, ← len_tl]
    omega
  · intro c hc
    rw [tl_append] at hc
    exact (List.mem_append.mp hc).elim (h.2 c) (g.2 c)
theorem tx_cut {n : Nat} {x : Str} {lo hi : Option Int} (h : Tx n x) : Tx n (cutS x lo hi) := by
  have hx := len_tl x
  have h1 := h.1
  constructor
  · rw [len_tl]
    show (List.take _ (List.drop _ (tl x))).length ≤ n
    rw [List.length_take, List.length_drop]
    omega
  · intro c hc
    have hc : c ∈ List.take _ (List.drop _ (tl x)) := hc
    exact h.2 c (List.mem_of_mem_drop (List.mem_of_mem_take hc))
theorem BW.sum {n : Nat} : ∀ {ws : List Str}, (∀ w ∈ ws, Wd w) → MW ws ≤ 63 * ws.length
  | [], _ => by simp [MW]
  | w :: ws, h => by
    have ih := BW.sum (n := n) (ws := ws) fun v hv => h v (List.mem_cons_of_mem _ hv)
    have hw := (h w List.mem_cons_self).1
    rw [MW_cons, List.length_cons]
    omega
theorem BW.mw {n : Nat} {ws : List Str} (h : BW n ws) : MW ws ≤ 63 * n := Nat.le_trans (BW.sum (n := n) h.2) (Nat.mul_le_mul_left _ h.1)
/-- the answer of a join -/
theorem joinW {K : PySem.W.Frag} {H : Hp} {q : Addr} {ws : List Str} {y : Str} {n : Nat} {Q : VK} (hw : Wl H q ws) (hy : y.length ≤ 1) (ay : ∀ c ∈ tl y, c < 128) (h : MW ws ≤ n) (hn : n ≤ 16777216) (ha : ∀ w ∈ ws, ∀ c ∈ tl w, c < 128) (k : ∀ x : Str, Tx n x → Q (.str x) H) :
    ∃ (a : Str) (p : Addr) (ys : List Str), V.str y = .str a ∧ [V.ref q] = [.ref p] ∧ (SqL K H p (ys.map V.str) ∨ SqT K H p (ys.map V.str)) ∧ (ys.map fun x => x.length).sum + ys.length * a.length ≤ 16777216 ∧ Q (.str (Txt.join a ys)) H :=
  ⟨y, q, ws, rfl, rfl, .inl (SqL.of hw), Nat.le_trans (MW_sum _ hy ws) (Nat.le_trans h hn), k _ (tx_join hy ay h ha)⟩
section
variable {P : Program} {w : World} {K : PySem.W.Frag} {mg : Str → Option Value} {base : Heap} {D : Addr}
abbrev sLawLine : Stmt := top 38
theorem scLawLine : FnScope ["_law_deed"] ["_law_deed"] (defScope sLawLine) := ⟨rfl, rfl, rfl, by decide +kernel, rfl, by decide +kernel, by decide +kernel⟩
def spLine : Sp := fun vs H Q _ => ∃ (v : V) (d : PyData), vs = [v] ∧ Tp H v d ∧ DeedOk d ∧ ∀ (x : Str) (H' : Hp), Same H H' → Tx 40000 x → Q (.str x) H'
theorem has__law_line (T : Txt K w mg D) : Has P w K mg base "_law_line" ["_law_deed"] 7 spLine := by
  have h__law_texts : Has P w K mg base "_law_texts" ["_law_numbers_here"] 1 spTexts := has__law_texts T
  have h__law_choice_words : Has P w K mg base "_law_choice_words" ["_law_choice"] 6 (spCW 589 ChoiceOk) := has_cw T
  refine T.d__law_line.has scLawLine (fun vs H Q E h => ?_) (fun f cdv A outer s H vs Q E hr h => ?_)
  · obtain ⟨v, ns, rfl, _⟩ := h
    rfl
  · obtain ⟨v, d, rfl, ht, hd, k⟩ := h
    refine ⟨_, (pss_cons (ps_if (pt_cmpR op_ne (pe_ix ix_tup (pv 0) pe_int (fun _ _ => rfl)) pe_str (nomark _)) (pss_one (ps_ret (pe_join pe_str (pe_op op_cat (pe_lst (pa_cons (pe_ix ix_tup (pv 0) pe_int (fun _ _ => rfl)) pa_nil)) (pe_has h__law_texts (hr.mono (by decide)) (pa_cons (pe_slice sl_tup (pv 0) (po_some pe_int) po_none) pa_nil))))))
      pss_nil)
      (pss_one (ps_ret (pe_join pe_str (pe_op op_cat (pe_lst (pa_cons pe_str (pa_cons (pe_callTy call_str_int (by rfl) T.str (by decide +kernel) (pa_cons (pe_ix ix_tup (pv 0) pe_int (fun _ _ => rfl)) pa_nil)) pa_nil))) (pe_has h__law_choice_words (hr.mono (by decide)) (pa_cons (pe_ix ix_tup (pv 0) pe_int (fun _ _ => rfl)) pa_nil))))))), ?_⟩
    have sp128 : ∀ c ∈ tl (" " : Str), c < 128 := fun c hc => by
      rw [tl_sp, List.mem_singleton] at hc
      omega
    cases hd with
    | @choose hh c sh ok =>
      cases ht with
      | @tup t xs _ hT hA =>
      cases hA with
      | cons e0 hA =>
      cases hA with
      | cons e1 hA =>
      cases hA with
      | cons t2 hA =>
      cases hA
      cases e0
      cases e1
      refine ⟨_, rfl, t, _, 0, _, rfl, rfl, SqT.of hT, rfl, rfl, _, rfl, ?_⟩
      rw [strD]
      refine iteFb (by decide +kernel) ?_
      refine ⟨⟨_, rfl⟩, _, rfl, t, _, 1, _, rfl, rfl, SqT.of hT, rfl, _, rfl, log_num sh, by show 2 ≤ sizeLine; decide, fun q1 hq1 => ?_⟩
      have y1 := same_new (o := .lst [V.str "choose", .str (numS hh)]) hq1
      refine ⟨_, rfl, t, _, 2, _, rfl, rfl, SqT.of (y1 _ _ hT), rfl, _, _, rfl, t2.same y1, ok, fun q2 H2 ws s2 hw bw => ?_⟩
      have w1 : Wl H2 q1 [("choose" : Str), numS hh] := s2 _ _ upd_same
      have b1 : BW 2 [("choose" : Str), numS hh] := bwc (wd_of (by decide +kernel)) (bw1 (wd_num sh))
      refine catW w1 hw (by have := bw.1; simp only [List.length_cons, List.length_nil]; omega) fun q3 H3 s3 hw3 => ?_
      have b3 := b1.app bw
      exact joinW hw3 (by decide) sp128 (Nat.le_trans b3.mw (show 63 * (2 + 589) ≤ 40000 by decide)) (by decide) (fun w hw => (b3.2 w hw).2) fun x tx => k x H3 (y1.trans (s2.trans s3)) tx
    | @plain kd ns hk hl hs =>
      cases ht with
      | @tup t xs _ hT hA =>
      cases hA with
      | @cons v0 vs d0 ds e0 hA =>
      cases e0
      have ev := hA.ints_inv
      subst ev
      have kd_ne : decide (kd = ("choose" : Str)) = false := by rcases hk with e | e | e | e <;> subst e <;> decide +kernel
      have kd_wd : Wd kd := by rcases hk with e | e | e | e <;> subst e <;> exact wd_of (by decide +kernel)
      have at0 : atI (V.str kd :: ns.map V.int) 0 = some (.str kd) := atI_nat (j := 0) rfl
      refine ⟨_, rfl, t, _, 0, .str kd, rfl, rfl, SqT.of hT, at0, rfl, _, rfl, ?_⟩
      rw [strD, kd_ne]
      refine iteT ⟨⟨_, rfl⟩, _, rfl, t, _, 0, .str kd, rfl, rfl, SqT.of hT, at0, by show 1 ≤ sizeLine; decide, fun q1 hq1 => ?_⟩
      have y1 := same_new (o := .lst [V.str kd]) hq1
      refine ⟨_, rfl, 1, rfl, t, _, rfl, SqT.of (y1 _ _ hT), ?_, fun p hp => ?_⟩
      · rintro ⟨h1, _⟩
        have e : HT.sIx (V.str kd :: ns.map V.int).length 0 (some 1) = 1 := by
          have := sI (n := (V.str kd :: ns.map V.int).length) (d := 0) (k := 1)
          rw [show (1 : Int) = ((1 : Nat) : Int) from rfl, this, List.length_cons]
          omega
        rw [e] at h1
        cases h1
      · have ec : cutV (V.str kd :: ns.map V.int) (some 1) none = ns.map V.int := by
          have := cut_from (id : V → V) (V.str kd :: ns.map V.int) 1
          rw [List.map_id, List.map_id] at this
          exact this
        rw [ec]
        have y2 := same_new (o := .tup (ns.map V.int)) hp
        refine ⟨_, _, rfl, Tp.ofI upd_same, ⟨by omega, hs⟩, fun q2 H2 ws s2 hw bw => ?_⟩
        have w1 : Wl H2 q1 [kd] := s2 _ _ (y2 _ _ upd_same)
        refine catW w1 hw (by have := bw.1; simp only [List.length_cons, List.length_nil]; omega) fun q3 H3 s3 hw3 => ?_
        have b3 := (bw1 kd_wd).app bw
        exact joinW hw3 (by decide) sp128 (Nat.le_trans b3.mw (show 63 * (1 + 30) ≤ 40000 by decide)) (by decide) (fun w hw => (b3.2 w hw).2) fun x tx => k x H3 (y1.trans (y2.trans (s2.trans s3))) tx
end
end K99

/-! K99D8 -/
set_option Elab.async false
set_option linter.all false
set_option maxRecDepth 100000
set_option maxHeartbeats 2000000
namespace K99
open PySem L2 TL
open PyProof.Rows (envOfC)
theorem wd_big {n : Int} (h : n.natAbs < 10 ^ 61) : Wd (numS n) := by
  refine ⟨?_, fun c hc => PySem.W.KSb.asc_num n c hc⟩
  have e := int_text_length_le10 (k := 61) (by decide) h
  show (Str.ofString (toString n)).length ≤ 62
  rw [ofString_length]
  omega
theorem log_big {n : Int} (h : n.natAbs < 10 ^ 61) : n.natAbs.log2 < 1920 := by
  by_cases h0 : n.natAbs = 0
  · rw [h0]
    decide
  · exact (Nat.log2_lt h0).mpr (Nat.lt_of_lt_of_le h (by decide +kernel))
theorem sign_ask {z : Str} {n : Int} {H : Hp} {Q : VK} (hl : 99 ≤ z.cps.toList.length) (ha : (tl z).all (fun c => decide (c < 128)) = true) (hz : z.length ≤ sizeLine) (h0 : 0 ≤ n) (h1 : n < 99) (k : ∀ c : Nat, c < 128 → Q (.str ⟨#[c]⟩) H) : rIxS (.str z) (.int n) H Q := by
  obtain ⟨j, rfl⟩ : ∃ j : Nat, n = (j : Int) := ⟨n.toNat, by omega⟩
  have lt : j < z.cps.toList.length := by omega
  exact ⟨z, _, _, rfl, rfl, hz, atI_nat (List.getElem?_eq_getElem lt), k _ (of_decide_eq_true (List.all_eq_true.mp ha _ (List.getElem_mem lt)))⟩
theorem Dw.own {K : PySem.W.Frag} {H H' : Hp} {a p W : Addr} {xs : List Int} {o : HO} (d0 : Dw K H a p xs) (hW : H W = none) (d : Dw K H' a p xs) : Dw K (upd H' W o) a p xs := by
  have np := d0.npD hW
  have sd : ∀ b u, b ≠ W → H' b = some u → (upd H' W o) b = some u := fun b u hb e => by
    rw [upd_ne hb]
    exact e
  obtain ⟨ns, e4⟩ := d.dr
  refine ⟨?_, ns, sd _ _ (Ne.symm np) e4⟩
  rcases d.sc with ⟨n1, e⟩ | e
  · refine .inl ⟨n1, ?_⟩
    have old : (∃ u, H a = some u) ∨ ∃ o its n, K.lookup a = some o ∧ o.cls = .type "list" ∧ o.dict = none ∧ o.data = .seq its n ∧ its.size ≤ sizeLine ∧ Vals (xs.map V.int) its.toList := by
      rcases d0.sq with (e1 | ⟨o, e1⟩) | e1
      · exact .inl ⟨_, e1⟩
      · exact .inl ⟨_, e1⟩
      · exact .inr e1
    rcases old with ⟨u, hu⟩ | old
    · have nW : a ≠ W := ne_of_none hu hW
      rcases e with (e | ⟨o, e⟩) | e
      · exact .inl (.inl (sd _ _ nW e))
      · exact .inl (.inr ⟨o, sd _ _ nW e⟩)
      · exact .inr e
    · exact .inr old
  · exact .inr e
theorem erase_map {α β : Type} (f : α → β) : ∀ (l : List α) (k : Nat), (l.map f).eraseIdx k = (l.eraseIdx k).map f
  | [], k => by simp
  | a :: l, 0 => rfl
  | a :: l, k + 1 => by
    rw [List.map_cons, List.eraseIdx_cons_succ, List.eraseIdx_cons_succ, List.map_cons, erase_map f l k]
theorem ins_map {α β : Type} (f : α → β) (l : List α) (k : Nat) (y : α) : (l.map f).take k ++ [f y] ++ (l.map f).drop k = (l.take k ++ [y] ++ l.drop k).map f := by
  rw [List.map_append, List.map_append, List.map_take, List.map_drop]
  rfl
theorem nat_of {n : Int} {m : Nat} (h : 0 ≤ n) (h2 : n < (m : Int)) : ∃ j : Nat, n = (j : Int) ∧ j < m := ⟨n.toNat, by omega, by omega⟩
section
variable {P : Program} {w : World} {K : PySem.W.Frag} {mg : Str → Option Value} {base : Heap} {D : Addr}
abbrev sLawWords : Stmt := top 48
theorem scLawWords : FnScope ["_law_words_here"] [] (defScope sLawWords) := ⟨rfl, rfl, rfl, by decide +kernel, rfl, by decide +kernel, by decide +kernel⟩
def spWords : Sp := fun vs H Q _ => vs = [] ∧ ∀ (q : Addr) (H' : Hp) (ws : List Str), Same H H' → Wl H' q ws → ws.length = 30 → (∀ w ∈ ws, Wd w) → Q (.ref q) H'
theorem has__law_words (T : Txt K w mg D) : Has P w K mg base "_law_words" [] 1 spWords := by
  refine T.d__law_words.has scLawWords (fun vs H Q E h => ?_) (fun f cdv A outer s H vs Q E hr h => ?_)
  · obtain ⟨rfl, _⟩ := h
    rfl
  · obtain ⟨rfl, k⟩ := h
    have pw : CPow 10 60 := ⟨by decide, by decide, by decide⟩
    refine ⟨_, (pss_cons (ps_set (i := 0) scLawWords.nd rfl (by first | exact Or.inl rfl | exact Or.inr rfl) (pe_lst (pa_cons pe_str (pa_cons pe_str (pa_cons pe_str (pa_cons pe_str (pa_cons pe_str (pa_cons pe_str (pa_cons pe_str (pa_cons pe_str (pa_cons pe_str (pa_cons pe_str (pa_cons pe_str (pa_cons pe_str pa_nil))))))))))))))
      (pss_cons (ps_set (i := 0) scLawWords.nd rfl (by first | exact Or.inl rfl | exact Or.inr rfl) (pe_op op_cat (pv 0) (pe_lst (pa_cons pe_str (pa_cons pe_str (pa_cons pe_str (pa_cons pe_str (pa_cons pe_str (pa_cons pe_str (pa_cons pe_str (pa_cons pe_str (pa_cons pe_str (pa_cons pe_str (pa_cons pe_str (pa_cons pe_str (pa_cons pe_str (pa_cons pe_str (pa_cons pe_str pa_nil))))))))))))))))))
      (pss_one (ps_ret (pe_op op_cat (pv 0) (pe_lst (pa_cons (pe_callTy call_str_int (by rfl) T.str (by decide +kernel) (pa_cons (pe_op op_sub (pe_op op_pow pe_int pe_int) pe_int) pa_nil)) (pa_cons (pe_callTy call_str_int (by rfl) T.str (by decide +kernel) (pa_cons (pe_op op_pow pe_int pe_int) pa_nil)) (pa_cons (pe_callTy call_str_int (by rfl) T.str (by decide +kernel) (pa_cons (pe_op op_sub pe_int (pe_op op_pow pe_int pe_int)) pa_nil)) pa_nil))))))))), ?_⟩
    refine ⟨by show 12 ≤ sizeLine; decide, fun q1 hq1 => ?_⟩
    have y1 := same_new (o := .lst ((["choose", "offer", "cancel", "undo", "redo", "maker", "sides", "table", "trader", "caps", "split", "part"] : List Str).map V.str)) hq1
    refine ⟨_, rfl, by show 15 ≤ sizeLine; decide, fun q2 hq2 => ?_⟩
    have y2 := same_new (o := .lst ((["row", "buys", "sells", "cap", "of", "0", "-1", "00", "07", "-0", "+1", "1.0", "-", "x", ""] : List Str).map V.str)) hq2
    refine catW (as := ["choose", "offer", "cancel", "undo", "redo", "maker", "sides", "table", "trader", "caps", "split", "part"]) (bs := ["row", "buys", "sells", "cap", "of", "0", "-1", "00", "07", "-0", "+1", "1.0", "-", "x", ""]) (y2 _ _ upd_same) upd_same (by decide) fun q3 H3 s3 hw3 => ?_
    refine ⟨_, rfl, _, _, rfl, rfl, pw, _, _, rfl, rfl, _, rfl, log_big (by decide +kernel), _, _, rfl, rfl, pw, _, rfl, log_big (by decide +kernel), _, _, rfl, rfl, pw, _, _, rfl, rfl, _, rfl, log_big (by decide +kernel), by show 3 ≤ sizeLine; decide, fun q4 hq4 => ?_⟩
    have y4 := same_new (o := .lst [V.str (numS ((10 : Int) ^ (60 : Int).toNat - 1)), .str (numS ((10 : Int) ^ (60 : Int).toNat)), .str (numS (1 - (10 : Int) ^ (60 : Int).toNat))]) hq4
    refine catW (hw3.same y4) (bs := [numS ((10 : Int) ^ (60 : Int).toNat - 1), numS ((10 : Int) ^ (60 : Int).toNat), numS (1 - (10 : Int) ^ (60 : Int).toNat)]) upd_same (by simp) fun q5 H5 s5 hw5 => ?_
    refine k q5 H5 _ (y1.trans (y2.trans (s3.trans (y4.trans s5)))) hw5 (by simp) fun w hw => ?_
    rcases List.mem_append.mp hw with hw | hw
    · exact wd_of (List.all_eq_true.mp (show (((["choose", "offer", "cancel", "undo", "redo", "maker", "sides", "table", "trader", "caps", "split", "part"] : List Str) ++ (["row", "buys", "sells", "cap", "of", "0", "-1", "00", "07", "-0", "+1", "1.0", "-", "x", ""] : List Str)).all wdB) = true by decide +kernel) w hw)
    · simp only [List.mem_cons, List.not_mem_nil, or_false] at hw
      rcases hw with e | e | e <;> rw [e] <;> exact wd_big (by decide +kernel)
abbrev sLawSpoilt : Stmt := top 49
theorem scLawSpoilt : FnScope ["_law_draws_here", "_law_text", "_law_kind", "_law_words_here", "_law_at", "_law_place", "_law_known", "_law_word", "_law_signs"] ["_law_draws_here", "_law_text"] (defScope sLawSpoilt) := ⟨rfl, rfl, rfl, by decide +kernel, rfl, by decide +kernel, by decide +kernel⟩
def spSpoilt (K : PySem.W.Frag) : Sp := fun vs H Q _ => ∃ (a p : Addr) (xs : List Int) (x : Str) (n : Nat), vs = [.ref p, .str x] ∧ Dw K H a p xs ∧ Tx n x ∧ n ≤ 3000000 ∧ ∀ (y : Str) (H' : Hp), SB p H H' → Dw K H' a p xs → Tx (2 * n + 200) y → Q (.str y) H'
theorem has__law_spoilt (T : Txt K w mg D) : Has P w K mg base "_law_spoilt" ["_law_draws_here", "_law_text"] 2 (spSpoilt K) := by
  have h__law_take : Has P w K mg base "_law_take" ["_law_draws_here", "_law_many"] 1 spTake := has__law_take T
  have h__law_words : Has P w K mg base "_law_words" [] 1 spWords := has__law_words T
  refine T.d__law_spoilt.has scLawSpoilt (fun vs H Q E h => ?_) (fun f cdv A outer s H vs Q E hr h => ?_)
  · obtain ⟨a, p, xs, x, n, rfl, _⟩ := h
    rfl
  · obtain ⟨a, p, xs, x, n, rfl, dw, tx, hn, k⟩ := h
    refine ⟨_, (pss_cons (ps_set (i := 2) scLawSpoilt.nd rfl (by first | exact Or.inl rfl | exact Or.inr rfl) (pe_has h__law_take (hr.mono (by decide)) (pa_cons (pv 0) (pa_cons pe_int pa_nil))))
      (pss_cons (ps_set (i := 3) scLawSpoilt.nd rfl (by first | exact Or.inl rfl | exact Or.inr rfl) (pe_split (pv 1) pe_str))
      (pss_cons (ps_set (i := 4) scLawSpoilt.nd rfl (by first | exact Or.inl rfl | exact Or.inr rfl) (pe_has h__law_take (hr.mono (by decide)) (pa_cons (pv 0) (pa_cons (pe_callB call_len_seq (by rfl) T.len PySem.boot_len (pa_cons (pv 3) pa_nil)) pa_nil))))
      (pss_cons (ps_set (i := 5) scLawSpoilt.nd rfl (by first | exact Or.inl rfl | exact Or.inr rfl) (pe_op op_mod (pe_callTy call_int1 (by rfl) T.int (by decide +kernel) (pa_cons (pe_op op_add (pe_op op_mul (pv 4) pe_int) (pe_has h__law_take (hr.mono (by decide)) (pa_cons (pv 0) (pa_cons pe_int pa_nil)))) pa_nil)) (pe_op op_add (pe_callB call_len_str (by rfl) T.len PySem.boot_len (pa_cons (pv 1) pa_nil)) pe_int)))
      (pss_cons (ps_set (i := 6) scLawSpoilt.nd rfl (by first | exact Or.inl rfl | exact Or.inr rfl) (pe_has0 h__law_words (hr.mono (by decide))))
      (pss_cons (ps_set (i := 7) scLawSpoilt.nd rfl (by first | exact Or.inl rfl | exact Or.inr rfl) (pe_ix ix_list (pv 6) (pe_has h__law_take (hr.mono (by decide)) (pa_cons (pv 0) (pa_cons (pe_callB call_len_seq (by rfl) T.len PySem.boot_len (pa_cons (pv 6) pa_nil)) pa_nil))) (fun _ _ => rfl)))
      (pss_cons (ps_if (pt_cmpR op_eq (pv 2) pe_int (nomark _)) (pss_one (ps_expr (pe_bm PySem.F.plainAttrs_list PySem.F.slot_list_pop PySem.F.type_list_pop mt_popAt (pv 3) (pa_cons (pv 4) pa_nil))))
      (pss_one (ps_if (pt_cmpR op_eq (pv 2) pe_int (nomark _)) (pss_one (ps_expr (pe_bm PySem.F.plainAttrs_list PySem.F.slot_list_insert PySem.F.type_list_insert mt_insert (pv 3) (pa_cons (pv 4) (pa_cons (pe_ix ix_list (pv 3) (pv 4) (fun _ _ => rfl)) pa_nil)))))
      (pss_one (ps_if (pt_cmpR op_eq (pv 2) pe_int (nomark _)) (pss_one (ps_expr (pe_bm PySem.F.plainAttrs_list PySem.F.slot_list_insert PySem.F.type_list_insert mt_insert (pv 3) (pa_cons (pv 4) (pa_cons (pv 7) pa_nil)))))
      (pss_one (ps_if (pt_cmpR op_eq (pv 2) pe_int (nomark _)) (pss_one (ps_asg (pv 7) (pg_sub (pv 3) (pv 4) set_list)))
      (pss_one (ps_if (pt_cmpR op_eq (pv 2) pe_int (nomark _)) (pss_one (ps_expr (pe_bm PySem.F.plainAttrs_list PySem.F.slot_list_insert PySem.F.type_list_insert mt_insert (pv 3) (pa_cons (pe_op op_mod (pe_callTy call_int1 (by rfl) T.int (by decide +kernel) (pa_cons (pv 5) pa_nil)) (pe_callB call_len_seq (by rfl) T.len PySem.boot_len (pa_cons (pv 3) pa_nil))) (pa_cons (pe_bm PySem.F.plainAttrs_list PySem.F.slot_list_pop PySem.F.type_list_pop mt_popAt (pv 3) (pa_cons (pv 4) pa_nil)) pa_nil)))))
      (pss_one (ps_if (pt_cmpR op_eq (pv 2) pe_int (nomark _)) (pss_one (ps_ret (pe_op op_add_str (pe_slice sl_str (pv 1) po_none (po_some (pv 5))) (pe_slice sl_str (pv 1) (po_some (pe_op op_add (pv 5) pe_int)) po_none))))
      (pss_cons (ps_set (i := 8) scLawSpoilt.nd rfl (by first | exact Or.inl rfl | exact Or.inr rfl) pe_str)
      (pss_cons (ps_set (i := 8) scLawSpoilt.nd rfl (by first | exact Or.inl rfl | exact Or.inr rfl) (pe_op op_add_str (pv 8) pe_str))
      (pss_one (ps_ret (pe_op op_add_str (pe_op op_add_str (pe_slice sl_str (pv 1) po_none (po_some (pv 5))) (pe_ix ix_str (pv 8) (pe_has h__law_take (hr.mono (by decide)) (pa_cons (pv 0) (pa_cons pe_int pa_nil))) (fun _ _ => rfl))) (pe_slice sl_str (pv 1) (po_some (pv 5)) po_none)))))))))))))))))
      (pss_one (ps_ret (pe_join pe_str (pv 3))))))))))), ?_⟩
    have hx := tx.1
    have hz : x.length ≤ sizeLine := Nat.le_trans (show _ ≤ 3000000 by omega) (by decide)
    have hz2 : x.length + 2 ≤ sizeLine := Nat.le_trans (show _ ≤ 3000002 by omega) (by decide)
    refine ⟨_, rfl, p, _, _, rfl, dw.at, by decide, fun k1 H1 a1 b1 s1 e1 => ?_⟩
    have d1 := dw.move s1 e1
    refine ⟨_, rfl, ⟨_, rfl⟩, x, _, rfl, rfl, by decide +kernel, hz2, fun W hW => ?_⟩
    have y1 := same_new (o := .lst ((Txt.split x " ").map V.str)) hW
    have nW := d1.npD hW
    have d1' := d1.same y1
    have hw : Wl (upd H1 W (.lst ((Txt.split x " ").map V.str))) W (Txt.split x " ") := upd_same
    have sb1 : SB p H (upd H1 W (.lst ((Txt.split x " ").map V.str))) := s1.tr (.of y1)
    have hM := MW_split x
    have hne : Txt.split x " " ≠ [] := split_ne (x := x) tl_sp (by decide)
    have asc : ∀ w ∈ Txt.split x " ", ∀ c ∈ tl w, c < 128 := fun w hw c hc => tx.2 c ((split_mem (x := x) tl_sp (by decide) hw).2.1 c hc)
    show tSeq _ _ _ _ (upd H1 W (.lst ((Txt.split x " ").map V.str)))
    generalize upd H1 W (.lst ((Txt.split x " ").map V.str)) = H2 at d1' hw sb1 ⊢
    generalize Txt.split x " " = ws at hM hne asc hw
    have hlen := MW_len ws
    have hpos : 0 < ws.length := List.length_pos_iff.mpr hne
    have lenI : ((ws.map V.str).length : Int) = (ws.length : Int) := by rw [List.length_map]
    refine ⟨_, rfl, _, rfl, W, _, rfl, .inl (SqL.of hw), p, _, _, rfl, d1'.at, by rw [lenI]; omega, fun at1 H3 a3 b3 s3 e3 => ?_⟩
    rw [lenI] at b3
    have d3 := d1'.move s3 e3
    refine ⟨_, rfl, _, _, rfl, rfl, .inr ⟨by decide, by decide⟩, _, rfl, p, _, _, rfl, d3.at, by decide, fun n4 H4 a4 b4 s4 e4 => ⟨_, _, rfl, rfl, .inl ⟨_, rfl, _, rfl, x, rfl, hz, _, _, rfl, rfl, _, _, rfl, rfl, show (0 : Int) < (x.length : Int) + 1 by omega, ?_⟩⟩⟩
    have d4 := d3.move s4 e4
    obtain ⟨at0, rfl, lt0⟩ := nat_of a3 b3
    have hw4 : Wl H4 W ws := s4 _ _ nW (s3 _ _ nW hw)
    have pl0 := Int.emod_nonneg ((at0 : Int) * 900 + n4) (show (x.length : Int) + 1 ≠ 0 by omega)
    refine ⟨rfl, fun q H5 kw s5 hk lk gk => ?_⟩
    have d5 := d4.same s5
    have lkI : ((kw.map V.str).length : Int) = 30 := by rw [List.length_map, lk]; rfl
    refine ⟨_, rfl, _, rfl, _, rfl, q, _, rfl, .inl (SqL.of hk), p, _, _, rfl, d5.at, by rw [lkI]; decide, fun n6 H6 a6 b6 s6 e6 => ?_⟩
    rw [lkI] at b6
    have d6 := d5.move s6 e6
    obtain ⟨j6, rfl, lt6⟩ := nat_of (m := 30) a6 b6
    have lt6' : j6 < kw.length := by omega
    have nq : q ≠ p := by
      rintro rfl
      have e := d5.at
      rw [hk] at e
      have e2 : kw.map V.str = d5.ns.map V.int := by
        injection e with e
        injection e
      cases hkw : kw with
      | nil =>
        rw [hkw] at lk
        cases lk
      | cons z zs =>
        rw [hkw] at e2
        cases hns : d5.ns with
        | nil =>
          rw [hns] at e2
          cases e2
        | cons m ms =>
          rw [hns] at e2
          simp at e2
    obtain ⟨wd, hwd⟩ : ∃ wd, wd = kw[j6] := ⟨_, rfl⟩
    have gw : Wd wd := by
      rw [hwd]
      exact gk _ (List.getElem_mem _)
    have atK : atI (kw.map V.str) ((j6 : Nat) : Int) = some (.str wd) := by
      rw [hwd]
      exact atI_nat (by rw [List.getElem?_map, List.getElem?_eq_getElem lt6']; rfl)
    refine ⟨q, _, _, .str wd, rfl, rfl, SqL.of (s6 _ _ nq hk), atK, ?_⟩
    have hw6 : Wl H6 W ws := s6 _ _ nW (s5 _ _ hw4)
    have sb6 : SB p H H6 := (((sb1.tr s3).tr s4).tr (.of s5)).tr s6
    have W0 : H W = none := by
      cases e : H W with
      | none => rfl
      | some u =>
        have z := s1 _ _ nW e
        rw [hW] at z
        cases z
    have sp128 : ∀ c ∈ tl (" " : Str), c < 128 := fun c hc => by
      rw [tl_sp, List.mem_singleton] at hc
      omega
    have fin : ∀ (ws' : List Str) (Hc : Hp), Wl Hc W ws' → SB p H Hc → Dw K Hc a p xs → MW ws' ≤ 2 * n + 200 → (∀ w ∈ ws', ∀ c ∈ tl w, c < 128) →
        ∃ (a : Str) (p : Addr) (ys : List Str), V.str " " = .str a ∧ [V.ref W] = [.ref p] ∧ (SqL K Hc p (ys.map V.str) ∨ SqT K Hc p (ys.map V.str)) ∧ (ys.map fun x => x.length).sum + ys.length * a.length ≤ 16777216 ∧ Q (.str (Txt.join a ys)) Hc :=
      fun ws' Hc h1 h2 h3 h4 h5 => joinW h1 (by decide) sp128 h4 (by omega) h5 fun y ty => k y Hc h2 h3 ty
    have ascW : ∀ y : Str, (∀ c ∈ tl y, c < 128) → ∀ w ∈ ws.take at0 ++ [y] ++ ws.drop at0, ∀ c ∈ tl w, c < 128 := fun y hy w hw => by
      rcases List.mem_append.mp hw with hw | hw
      · rcases List.mem_append.mp hw with hw | hw
        · exact asc w (List.mem_of_mem_take hw)
        · rw [List.mem_singleton.mp hw]
          exact hy
      · exact asc w (List.mem_of_mem_drop hw)
    have short : (ws.map V.str).length < sizeLine := by
      rw [List.length_map]
      exact Nat.lt_of_le_of_lt (show _ ≤ 3000001 by omega) (by decide)
    have big63 : (at0 : Int) < 2 ^ 63 := by
      have : at0 ≤ 3000001 := by omega
      have : (at0 : Int) ≤ 3000001 := by omega
      exact Int.lt_of_le_of_lt this (by decide)
    have ixW : ixN (ws.map V.str).length (at0 : Int) = some at0 := by
      rw [List.length_map]
      exact ixN_at lt0
    have seqW := (ixN_seq ixW).1
    have getW : (ws.map V.str)[at0]? = some (.str (ws[at0])) := by
      rw [List.getElem?_map, List.getElem?_eq_getElem lt0]
      rfl
    have memW : ws[at0] ∈ ws := List.getElem_mem _
    have lenW := MW_mem memW
    have gl := gw.1
    refine ⟨_, rfl, rfl, _, rfl, ?_⟩
    refine ite2 (fun _ => ?_) (fun _ => ?_)
    · refine ⟨_, rfl, .inl ⟨rfl, _, SqL.of hw6⟩, _, rfl, W, _, _, at0, _, rfl, rfl, hw6, by omega, big63, seqW, getW, ?_⟩
      rw [erase_map]
      exact ⟨⟨_, rfl⟩, _, rfl, fin _ _ upd_same (sb6.own W0) (dw.own W0 d6) (by have := MW_erase ws at0; omega) fun w hw => asc w (List.mem_of_mem_eraseIdx hw)⟩
    refine ⟨_, rfl, rfl, _, rfl, ?_⟩
    refine ite2 (fun _ => ?_) (fun _ => ?_)
    · refine ⟨_, rfl, .inl ⟨rfl, _, SqL.of hw6⟩, _, rfl, _, rfl, _, rfl, W, _, _, .str (ws[at0]), rfl, rfl, SqL.of hw6, atI_nat getW, W, _, _, _, rfl, rfl, hw6, short, by omega, big63, ?_⟩
      rw [Int.toNat_natCast, ins_map]
      exact ⟨⟨_, rfl⟩, _, rfl, fin _ _ upd_same (sb6.own W0) (dw.own W0 d6) (by rw [MW_ins]; omega) (ascW _ (asc _ memW))⟩
    refine ⟨_, rfl, rfl, _, rfl, ?_⟩
    refine ite2 (fun _ => ?_) (fun _ => ?_)
    · refine ⟨_, rfl, .inl ⟨rfl, _, SqL.of hw6⟩, _, rfl, _, rfl, W, _, _, _, rfl, rfl, hw6, short, by omega, big63, ?_⟩
      rw [Int.toNat_natCast, ins_map]
      exact ⟨⟨_, rfl⟩, _, rfl, fin _ _ upd_same (sb6.own W0) (dw.own W0 d6) (by rw [MW_ins]; omega) (ascW _ gw.2)⟩
    refine ⟨_, rfl, rfl, _, rfl, ?_⟩
    refine ite2 (fun _ => ?_) (fun _ => ?_)
    · refine ⟨_, rfl, _, rfl, _, rfl, W, _, _, at0, rfl, rfl, hw6, ixW, ?_⟩
      rw [← List.map_set]
      refine ⟨⟨_, rfl⟩, _, rfl, fin _ _ upd_same (sb6.own W0) (dw.own W0 d6) (by have := MW_set ws at0 wd; omega) fun w hw => ?_⟩
      rcases List.mem_or_eq_of_mem_set hw with hw | hw
      · exact asc w hw
      · rw [hw]
        exact gw.2
    refine ⟨_, rfl, rfl, _, rfl, ?_⟩
    refine ite2 (fun _ => ?_) (fun _ => ?_)
    · have wpos : (0 : Int) < ((ws.map V.str).length : Int) := by rw [lenI]; omega
      have wn0 : ((ws.map V.str).length : Int) ≠ 0 := by omega
      refine ⟨_, rfl, .inl ⟨rfl, _, SqL.of hw6⟩, _, rfl, .inl ⟨_, rfl, _, rfl, W, _, rfl, .inl (SqL.of hw6), _, _, rfl, rfl, wpos, _, rfl, .inl ⟨rfl, _, SqL.of hw6⟩, _, rfl, W, _, _, at0, _, rfl, rfl, hw6, by omega, big63, seqW, getW, ?_⟩⟩
      have se : ((ws.map V.str).eraseIdx at0).length < sizeLine := Nat.lt_of_le_of_lt (List.length_eraseIdx_le _ _) short
      have lt63 : ∀ z : Int, z % ((ws.map V.str).length : Int) < 2 ^ 63 := fun z => by
        have h1 := Int.emod_lt_of_pos z wpos
        rw [lenI] at h1 ⊢
        have h2 : (ws.length : Int) ≤ 3000001 := by omega
        exact Int.lt_of_lt_of_le h1 (Int.le_trans h2 (by decide))
      refine ⟨W, _, _, _, rfl, rfl, upd_same, se, Int.emod_nonneg _ wn0, lt63 _, ?_⟩
      rw [erase_map, ins_map]
      refine ⟨⟨_, rfl⟩, _, rfl, fin _ _ upd_same ((sb6.own W0).own W0) (dw.own W0 (dw.own W0 d6)) (by rw [MW_ins]; have := MW_erase ws at0; omega) fun w hw => ?_⟩
      rcases List.mem_append.mp hw with hw | hw
      · rcases List.mem_append.mp hw with hw | hw
        · exact asc w (List.mem_of_mem_eraseIdx (List.mem_of_mem_take hw))
        · rw [List.mem_singleton.mp hw]
          exact asc _ memW
      · exact asc w (List.mem_of_mem_eraseIdx (List.mem_of_mem_drop hw))
    have cl : ∀ lo hi : Option Int, (cutS x lo hi).length ≤ n := fun lo hi => (tx_cut tx).1
    have room : ∀ m : Nat, m ≤ 6000003 → m ≤ sizeLine := fun m hm => Nat.le_trans hm (by decide)
    refine ⟨_, rfl, rfl, _, rfl, ?_⟩
    refine ite2 (fun _ => ?_) (fun _ => ?_)
    · refine ⟨_, rfl, _, rfl, _, rfl, x, rfl, hz, _, rfl, _, rfl, _, _, rfl, rfl, _, rfl, x, rfl, hz, _, _, rfl, rfl, ?_, k _ _ sb6 d6 ((tx_app (tx_cut tx) (tx_cut tx)).mono (by omega))⟩
      have h1 := cl none (some (((at0 : Int) * 900 + n4) % ((x.length : Int) + 1)))
      have h2 := cl (some (((at0 : Int) * 900 + n4) % ((x.length : Int) + 1) + 1)) none
      exact room _ (by omega)
    · refine ⟨_, rfl, _, _, rfl, rfl, by decide +kernel, ?_⟩
      refine ⟨_, rfl, _, rfl, _, rfl, x, rfl, hz, _, rfl, _, rfl, p, _, _, rfl, d6.at, by decide, fun n7 H7 a7 b7 s7 e7 => ?_⟩
      have d7 := d6.move s7 e7
      refine sign_ask (by decide +kernel) (by decide +kernel) (by decide +kernel) a7 b7 fun c hc => ?_
      have tc : Tx 1 (⟨#[c]⟩ : Str) := ⟨Nat.le_refl _, fun z hz => by
        have hz : z ∈ [c] := hz
        rw [List.mem_singleton.mp hz]
        exact hc⟩
      have h1 := cl none (some (((at0 : Int) * 900 + n4) % ((x.length : Int) + 1)))
      have h2 := cl (some (((at0 : Int) * 900 + n4) % ((x.length : Int) + 1))) none
      have h3 := (tx_app (tx_cut (lo := none) (hi := some (((at0 : Int) * 900 + n4) % ((x.length : Int) + 1))) tx) tc).1
      refine ⟨_, _, rfl, rfl, room _ ?_, _, rfl, _, rfl, _, rfl, x, rfl, hz, _, _, rfl, rfl, room _ ?_, k _ _ (sb6.tr s7) d7 ((tx_app (tx_app (tx_cut tx) tc) (tx_cut tx)).mono (by omega))⟩
      · have := tc.1
        omega
      · omega
end
end K99

/-! K99E0 -/
set_option Elab.async false
set_option linter.all false
set_option maxRecDepth 100000
set_option maxHeartbeats 2000000
/-! The plain law's last part: the lines ahead of the bad one, and one more line. -/
namespace K99
open PySem L2 TL
theorem bad_inj {a b : Nat} (h : badD a = badD b) : a = b := by
  unfold badD at h
  injection h with h
  injection h with _ h
  injection h with h _
  injection h with h
  omega
theorem bad_ne_read {a : Nat} {ds : List PyData} (h : badD a = readD ds) : False := by
  unfold badD readD at h
  injection h with h
  injection h with h _
  injection h with h
  revert h
  decide +kernel
theorem take_len {α : Type} (p : α → Bool) : ∀ l : List α, l.take (l.takeWhile p).length = l.takeWhile p
  | [] => rfl
  | a :: l => by
    rw [List.takeWhile_cons]
    split
    · rw [List.length_cons, List.take_succ_cons, take_len p l]
    · rfl
theorem mem_takeW {α : Type} {p : α → Bool} : ∀ {l : List α} {x : α}, x ∈ l.takeWhile p → p x = true
  | a :: l, x, h => by
    rw [List.takeWhile_cons] at h
    split at h
    · rename_i ha
      rcases List.mem_cons.mp h with rfl | h
      · exact ha
      · exact mem_takeW h
    · simp at h
theorem takeW_le {α : Type} (p : α → Bool) : ∀ l : List α, (l.takeWhile p).length ≤ l.length
  | [] => Nat.le_refl _
  | a :: l => by
    have := takeW_le p l
    rw [List.takeWhile_cons]
    split
    · rw [List.length_cons, List.length_cons]
      omega
    · exact Nat.zero_le _
/-- the lines ahead of the bad one are good -/
theorem ahead_good {ls : List Str} {m : Nat} (h : dueD ls = badD m) (hne : ls ≠ []) : 1 ≤ m ∧ m ≤ ls.length ∧ ∀ l ∈ ls.take (m - 1), good l = true := by
  have hpos : 0 < ls.length := List.length_pos_iff.mpr hne
  unfold dueD at h
  split at h
  · rename_i ha
    split at h
    · exact (bad_ne_read h.symm).elim
    · have e := bad_inj h
      subst e
      refine ⟨hpos, Nat.le_refl _, fun l hl => List.all_eq_true.mp ha l ?_⟩
      rw [← List.dropLast_eq_take] at hl
      exact hl
  · have e := bad_inj h
    subst e
    have hle := takeW_le good ls.dropLast
    rw [List.length_dropLast] at hle
    refine ⟨by omega, by omega, fun l hl => ?_⟩
    rw [Nat.add_sub_cancel] at hl
    have e : ls.take (ls.dropLast.takeWhile good).length = ls.dropLast.takeWhile good := by
      rw [← take_len good ls.dropLast]
      conv => rhs; rw [List.dropLast_eq_take]
      rw [List.take_take, take_len, ← List.dropLast_eq_take]
      congr 1
      omega
    rw [e] at hl
    exact mem_takeW hl
theorem joinL_nil : ∀ ps : List (List Nat), joinL [] ps = ps.flatMap id
  | [] => rfl
  | [p] => by
    show p = _
    simp
  | p :: q :: r => by
    have ih := joinL_nil (q :: r)
    show p ++ ([] ++ joinL [] (q :: r)) = _
    rw [List.nil_append, ih, List.flatMap_cons]
    rfl
theorem tl_e : tl ("" : Str) = [] := by decide +kernel
/-- lines put together again -/
theorem lines_join {ls : List Str} (h : ∀ l ∈ ls, 10 ∉ tl l) : linesOf (Txt.join "" (ls.map fun l => l ++ ("\n" : Str))) = ls ++ [("" : Str)] := by
  apply map_tl_inj
  show (Txt.split _ "\n").map tl = _
  rw [split_tl tl_nl (by decide), join_eq, tl_join, tl_e, joinL_nil]
  have e : ((ls.map fun l => l ++ ("\n" : Str)).map tl).flatMap id = (ls.map tl).flatMap fun p => p ++ [10] := by
    rw [List.map_map, List.flatMap_map, List.flatMap_map]
    congr 1
    funext l
    show tl (l ++ "\n") = tl l ++ [10]
    rw [tl_append, tl_nl]
  rw [e, cut_lines 10 _ fun p hp => by
    obtain ⟨l, hl, rfl⟩ := List.mem_map.mp hp
    exact h l hl]
  rw [List.map_append, List.map_cons, List.map_nil, tl_e]
theorem good_empty : good "" = false := by decide +kernel
theorem due_before {ls : List Str} (h : ∀ l ∈ ls, good l = true) : dueD (ls ++ [("" : Str)]) = readD (ls.map deedD) := by
  have e := due_read (ls := ls ++ [("" : Str)]) (by rw [List.dropLast_concat]; exact h) (by rw [List.getLastD_concat])
  rw [List.dropLast_concat] at e
  exact e
/-- one line more -/
theorem lines_more (x : Str) : linesOf (x ++ ("\n" : Str)) = linesOf x ++ [("" : Str)] := by
  apply map_tl_inj
  show (Txt.split _ "\n").map tl = (Txt.split x "\n" ++ [("" : Str)]).map tl
  rw [split_tl tl_nl (by decide), tl_append, tl_nl, List.map_append, split_tl tl_nl (by decide), List.map_cons, List.map_nil, tl_e]
  exact cutA_snoc 10 (tl x) []
theorem read_inv {ls : List Str} {ds : List PyData} (h : dueD ls = readD ds) (hne : ls ≠ []) : (∀ l ∈ ls.dropLast, good l = true) ∧ ls = ls.dropLast ++ [("" : Str)] ∧ ds.length = ls.dropLast.length := by
  unfold dueD at h
  split at h
  · rename_i ha
    split at h
    · rename_i he
      refine ⟨List.all_eq_true.mp ha, ?_, ?_⟩
      · have e := List.dropLast_concat_getLast hne
        have g : ls.getLast hne = "" := by
          rw [← he, List.getLastD_eq_getLast?, List.getLast?_eq_getLast hne]
          rfl
        rw [g] at e
        exact e.symm
      · unfold readD at h
        injection h with h
        injection h with _ h
        injection h with h _
        injection h with h
        rw [← h, List.length_map]
    · exact (bad_ne_read h).elim
  · exact (bad_ne_read h).elim
theorem due_more {x : Str} {ds : List PyData} (h : dueD (linesOf x) = readD ds) : dueD (linesOf (x ++ ("\n" : Str))) = badD (ds.length + 1) := by
  have hne : linesOf x ≠ [] := split_ne (x := x) tl_nl (by decide)
  obtain ⟨hg, he, hl⟩ := read_inv h hne
  rw [lines_more, hl]
  have hlen : (linesOf x).dropLast.length < (linesOf x).length := by
    rw [List.length_dropLast]
    have := List.length_pos_iff.mpr hne
    omega
  refine due_bad (l := "") ?_ ?_ good_empty
  · rw [List.dropLast_concat, List.length_dropLast, ← List.dropLast_eq_take]
    exact hg
  · rw [List.dropLast_concat]
    conv => lhs; rw [he]
    simp
theorem MW_splitN (x : Str) : MW (Txt.split x "\n") = x.length + 1 := by
  have e := split_tl (x := x) tl_nl (by decide)
  have h := congrArg List.length (cutA_back 10 (tl x) [])
  rw [List.length_flatMap] at h
  have e2 : MW (Txt.split x "\n") = ((cut 10 (tl x)).map fun p => (p ++ [10]).length).sum := by
    rw [← e, List.map_map]
    unfold MW
    congr 1
    refine List.map_congr_left fun w _ => ?_
    show w.length + 1 = (tl w ++ [10]).length
    rw [List.length_append, len_tl]
    rfl
  rw [e2]
  show (((cutA 10 [] (tl x)).map fun p => (p ++ [10]).length).sum) = _
  rw [h]
  simp [len_tl]
theorem MW_take (ls : List Str) (k : Nat) : MW (ls.take k) ≤ MW ls := by
  have := MW_app (ls.take k) (ls.drop k)
  rw [List.take_append_drop] at this
  omega
end K99

/-! K99E1 -/
set_option Elab.async false
set_option linter.all false
set_option maxRecDepth 100000
set_option maxHeartbeats 2000000
namespace K99
open PySem L2 TL
open PyProof.Rows (envOfC)
/-- what the elements of a comprehension over a list are worth, in texts -/
theorem lc_texts {K : PySem.W.Frag} {a : Addr} {xs : List V} {i0 n : Nat} {te : TE} {σ : L2.St} {H1 : Hp} {D : Addr} {Qd : Hp → Prop} (hS : SqL K H1 a xs) (hD : H1 D = none) (hz : xs.length ≤ 30000)
    (hs : ∀ (x : V) (H : Hp) (Q : VK), x ∈ xs → Same H1 H → (∀ (w : Str) (H4 : Hp), Same H H4 → Tx n w → Q (.str w) H4) → te ((σ.set i0 none).set i0 (some x)) H Q)
    (hd : ∀ (H : Hp) (ws : List Str), Same H1 H → Wl H D ws → ws.length = xs.length → (∀ w ∈ ws, Tx n w) → Qd H) :
    ∃ W : Nat → Nat → Hp → Prop, (∃ k0, W 0 k0 (upd H1 D (.lst []))) ∧ ∀ i k0 H, W i k0 H →
      ((Itl K a).stop i H ∧ Qd H) ∨ ((Itl K a).go i H ∧ ∃ Nx : Hp → Prop, (∀ H', Nx H' → ∃ k1, k1 < k0 ∧ W (i + 1) k1 H') ∧ ∀ x H', (Itl K a).yld i H x H' → gName i0 x (wipe σ [i0]) H' fun σ2 H2 => wipe σ2 [i0] = wipe σ [i0] ∧ tYes σ2 H2 fun b H3 =>
        if b = true then te σ2 H3 fun y H4 => ∃ ac, H4 D = some (.lst ac) ∧ ac.length < sizeLine ∧ Nx (upd H4 D (.lst (ac ++ [y]))) else Nx H3) := by
  refine lc_it (walk_list (K := K) (a := a) (xs := xs)) (fun i H => Same H1 H ∧ ∃ ws : List Str, Wl H D ws ∧ ws.length = i ∧ ∀ w ∈ ws, Tx n w) ⟨same_own (Same.refl _) hD, [], upd_same, rfl, fun y hy => by simp at hy⟩ (fun i H _ h => h.1.seq hS) ?_ ?_
  · rintro i x H H' hi ⟨s1, ws, hw, hl, hg⟩ ⟨eH, hx⟩
    subst eH
    refine ⟨?_, ?_⟩
    · show ((σ.set i0 none).set i0 (some _)).set i0 none = σ.set i0 none
      rw [List.set_set, List.set_set]
    · unfold tYes
      dsimp only
      refine iteT (hs x _ _ (List.mem_of_getElem? hx) s1 fun w H4 s4 gw => ⟨_, s4 _ _ hw, ?_, same_own (s1.trans s4) hD, ws ++ [w], ?_, by rw [List.length_append, hl]; rfl, fun z hz => ?_⟩)
      · rw [List.length_map]
        exact Nat.lt_of_le_of_lt (show _ ≤ 30000 by omega) (by decide)
      · unfold Wl
        rw [upd_same, List.map_append]
        rfl
      · rcases List.mem_append.mp hz with hz | hz
        · exact hg z hz
        · rw [List.mem_singleton.mp hz]
          exact gw
  · rintro H ⟨s1, ws, hw, hl, hg⟩
    exact hd H ws s1 hw hl hg
theorem if_slot {c : Prop} [Decidable c] {t : TS} {D : Ends} {σ : L2.St} {H : Hp} (R : L2.St → Prop) (hD : ∀ σ', R σ' → D.nx σ' H) (h1 : c → ∀ D' : Ends, (∀ σ', R σ' → D'.nx σ' H) → t D' σ H) (h2 : R σ) : if c then t D σ H else tNext D σ H := by
  by_cases q : c
  · rw [if_pos q]
    exact h1 q D hD
  · rw [if_neg q]
    exact hD σ h2
theorem MW_tx {n : Nat} : ∀ {ws : List Str}, (∀ w ∈ ws, Tx n w) → MW ws ≤ (n + 1) * ws.length
  | [], _ => by simp [MW]
  | w :: ws, h => by
    have ih := MW_tx (n := n) (ws := ws) fun v hv => h v (List.mem_cons_of_mem _ hv)
    have hw := (h w List.mem_cons_self).1
    rw [MW_cons, List.length_cons, Nat.mul_succ]
    omega
/-- how long the spoilt text may be -/
def BL : Nat → Nat
  | 0 => 300000
  | i + 1 => 2 * BL i + 200
theorem BL_le {i : Nat} (h : i ≤ 3) : BL i ≤ 3000000 := by
  rcases (show i = 0 ∨ i = 1 ∨ i = 2 ∨ i = 3 by omega) with e | e | e | e <;> subst e <;> decide
theorem tx_nl : Tx 1 ("\n" : Str) := ⟨by decide, fun c hc => by
  rw [tl_nl, List.mem_singleton] at hc
  omega⟩
def nlV : V → PyData
  | .str l => .str (l ++ ("\n" : Str))
  | _ => .none
theorem LOk.of_tx {n : Nat} {x : Str} (h : Tx n x) (k : n ≤ 20001) : LOk x := ⟨Nat.le_trans h.1 k, fun c hc => Nat.lt_trans (h.2 c hc) (by decide)⟩
section
variable {P : Program} {w : World} {K : PySem.W.Frag} {mg : Str → Option Value} {base : Heap} {D CE BT fI : Addr}
abbrev sLaw : Stmt := top 53
theorem scLaw : FnScope ["_law_script", "_law_draws_here", "_law_deeds", "_law_text", "_law_k", "_law_due_here", "_law_before", "_law_deed", "_law_line_here"] ["_law_script"] (defScope sLaw) := ⟨rfl, rfl, rfl, by decide +kernel, rfl, by decide +kernel, by decide +kernel⟩
def spLaw (K : PySem.W.Frag) : Sp := fun vs H Q _ => ∃ (a : Addr) (xs : List Int), vs = [.ref a] ∧ SqL K H a (xs.map V.int) ∧ xs.length ≤ 63 ∧ ∀ H', Q (.bl true) H'
theorem law_ok (T : Txt K w mg D) (TX : TxtX K mg CE BT fI) {f : Addr} {fd : FuncData} (F : Fun K "law" "law" (top 53) f fd) : FnOk P w K mg base CX0 11 f fd ["_law_script"] (spLaw K) := by
  have h__law_draws : Has P w K mg base "_law_draws" ["_law_script", "_law_many"] 1 (spDraws K) := has__law_draws T
  have h__law_take : Has P w K mg base "_law_take" ["_law_draws_here", "_law_many"] 1 spTake := has__law_take T
  have h__law_any_deed : Has P w K mg base "_law_any_deed" ["_law_script", "_law_draws_here"] 6 (spDraw K GDeed) := has__law_any_deed T
  have h__law_line : Has P w K mg base "_law_line" ["_law_deed"] 7 spLine := has__law_line T
  have h__law_spoilt : Has P w K mg base "_law_spoilt" ["_law_draws_here", "_law_text"] 2 (spSpoilt K) := has__law_spoilt T
  have h__law_due_of : Has P w K mg base "_law_due_of" ["_law_text"] 9 spDueOf := has__law_due_of T
  have h__law_same : Has P w K mg base "_law_same" ["_law_actual", "_law_due_here"] 10 (spSame 9) := has__law_same T 9
  have h__law_read : Has P w K mg base "_law_read" ["_law_text"] 10 spReadT := has__law_read T TX
  refine F.ok scLaw (fun vs H Q E h => ?_) (fun cdv A outer s H vs Q E hr h => ?_)
  · obtain ⟨a, xs, rfl, _⟩ := h
    rfl
  · obtain ⟨a, xs, rfl, sq, few, k⟩ := h
    refine ⟨_, (pss_cons (ps_set (i := 1) scLaw.nd rfl (by first | exact Or.inl rfl | exact Or.inr rfl) (pe_has h__law_draws (hr.mono (by decide)) (pa_cons (pv 0) (pa_cons pe_int pa_nil))))
      (pss_cons (ps_setLc (i := 2) (own := [("_law_k", 4)]) rfl scLaw.nd rfl rfl (sw_true rfl rfl rfl (by decide +kernel)) (pi_range1 (by rfl) T.range (pa_cons (pe_has h__law_take (hr.mono (by decide)) (pa_cons (pv 1) (pa_cons pe_int pa_nil))) pa_nil)) (blkOk_by (own := [("_law_k", 4)]) (N := ["_law_script", "_law_draws_here", "_law_deeds", "_law_text", "_law_k", "_law_due_here", "_law_before", "_law_deed", "_law_line_here"]) (sc := defScope sLaw) (by decide +kernel)) (fun _ _ _ _ _ => pg_name (i := 4) scLaw.nd rfl (Or.inl rfl)) (fun _ _ _ _ _ => pts_nil) (fun _ _ _ _ _ => (pe_has h__law_any_deed (hr.mono (by decide)) (pa_cons (pv 0) (pa_cons (pv 1) pa_nil)))))
      (pss_cons (ps_set (i := 3) scLaw.nd rfl (by first | exact Or.inl rfl | exact Or.inr rfl) (pe_join pe_str (pe_lc (own := [("_law_deed", 7)]) rfl scLaw.nd (pi_list (pv 2)) (blkOk_by (own := [("_law_deed", 7)]) (N := ["_law_script", "_law_draws_here", "_law_deeds", "_law_text", "_law_k", "_law_due_here", "_law_before", "_law_deed", "_law_line_here"]) (sc := defScope sLaw) (by decide +kernel)) (fun _ _ _ _ _ => pg_name (i := 7) scLaw.nd rfl (Or.inl rfl)) (fun _ _ _ _ _ => pts_nil) (fun _ _ _ _ _ => (pe_op op_add_str (pe_has h__law_line (hr.mono (by decide)) (pa_cons (pv 7) pa_nil)) pe_str)))))
      (pss_cons (ps_for PassesOwn.never rfl (pi_range1 (by rfl) T.range (pa_cons (pe_has h__law_take (hr.mono (by decide)) (pa_cons (pv 1) (pa_cons pe_int pa_nil))) pa_nil)) (pg_name (i := 4) scLaw.nd rfl (Or.inl rfl))
      (pss_one (ps_set (i := 3) scLaw.nd rfl (by first | exact Or.inl rfl | exact Or.inr rfl) (pe_has h__law_spoilt (hr.mono (by decide)) (pa_cons (pv 1) (pa_cons (pv 3) pa_nil))))))
      (pss_cons (ps_if (pt_cmpR op_eq (pe_has h__law_take (hr.mono (by decide)) (pa_cons (pv 1) (pa_cons pe_int pa_nil))) pe_int (nomark _)) (pss_one (ps_set (i := 3) scLaw.nd rfl (by first | exact Or.inl rfl | exact Or.inr rfl) (pe_slice sl_str (pv 3) po_none (po_some (pe_un un_neg pe_int)))))
      pss_nil)
      (pss_cons (ps_if (pt_cmpR op_gt (pe_callB call_len_str (by rfl) T.len PySem.boot_len (pa_cons (pv 3) pa_nil)) pe_int (nomark _)) (pss_one (ps_ret pe_bl))
      pss_nil)
      (pss_cons (ps_set (i := 5) scLaw.nd rfl (by first | exact Or.inl rfl | exact Or.inr rfl) (pe_has h__law_due_of (hr.mono (by decide)) (pa_cons (pv 3) pa_nil)))
      (pss_cons (ps_if (pt_not (pt_val (pe_has h__law_same (hr.mono (by decide)) (pa_cons (pe_has h__law_read (hr.mono (by decide)) (pa_cons (pv 3) pa_nil)) (pa_cons (pv 5) pa_nil))))) (pss_one (ps_ret pe_bl))
      pss_nil)
      (pss_cons (ps_if (pt_cmpR op_eq (pe_ix ix_tup (pv 5) pe_int (fun _ _ => rfl)) pe_str (nomark _)) (pss_cons (ps_set (i := 6) scLaw.nd rfl (by first | exact Or.inl rfl | exact Or.inr rfl) (pe_join pe_str (pe_lc (own := [("_law_line_here", 8)]) rfl scLaw.nd (pi_list (pe_slice sl_list (pe_split (pv 3) pe_str) po_none (po_some (pe_op op_sub (pe_ix ix_tup (pv 5) pe_int (fun _ _ => rfl)) pe_int)))) (blkOk_by (own := [("_law_line_here", 8)]) (N := ["_law_script", "_law_draws_here", "_law_deeds", "_law_text", "_law_k", "_law_due_here", "_law_before", "_law_deed", "_law_line_here"]) (sc := defScope sLaw) (by decide +kernel)) (fun _ _ _ _ _ => pg_name (i := 8) scLaw.nd rfl (Or.inl rfl)) (fun _ _ _ _ _ => pts_nil) (fun _ _ _ _ _ => (pe_op op_add_str (pv 8) pe_str)))))
      (pss_one (ps_ret (pe_and (pe_has h__law_same (hr.mono (by decide)) (pa_cons (pe_has h__law_read (hr.mono (by decide)) (pa_cons (pv 6) pa_nil)) (pa_cons (pe_has h__law_due_of (hr.mono (by decide)) (pa_cons (pv 6) pa_nil)) pa_nil))) (pe_one (pe_cmpR op_eq (pe_ix ix_tup (pe_has h__law_due_of (hr.mono (by decide)) (pa_cons (pv 6) pa_nil)) pe_int (fun _ _ => rfl)) pe_str (nomark _)))))))
      pss_nil)
      (pss_one (ps_ret (pe_has h__law_same (hr.mono (by decide)) (pa_cons (pe_has h__law_read (hr.mono (by decide)) (pa_cons (pe_op op_add_str (pv 3) pe_str) pa_nil)) (pa_cons (pe_tup (pa_cons pe_str (pa_cons (pe_op op_add (pe_callB call_len_seq (by rfl) T.len PySem.boot_len (pa_cons (pe_ix ix_tup (pv 5) pe_int (fun _ _ => rfl)) pa_nil)) pe_int) pa_nil))) pa_nil)))))))))))))), ?_⟩
    refine ⟨_, rfl, a, xs, rfl, sq, few, fun p ms H1 s1 p0 hp => ?_⟩
    have d1 : Dw K H1 a p xs := by
      refine ⟨?_, ms, hp⟩
      rcases sq with (e | ⟨o, e⟩) | e
      · exact .inl ⟨ne_of_none e p0, .inl (.inl (s1 _ _ e))⟩
      · exact .inl ⟨ne_of_none e p0, .inl (.inr ⟨o, s1 _ _ e⟩)⟩
      · exact .inr fun H' => .inr e
    refine ⟨_, rfl, p, _, _, rfl, d1.at, by decide, fun n2 H2 a2 b2 s2 e2 => ⟨_, rfl, by omega, by omega, fun L hL => ?_⟩⟩
    have d2 := d1.move s2 e2
    refine lc_draw (K := K) GDeed GD.up d2 hL (Nat.le_trans (show _ ≤ 7 by omega) (by decide)) ?_ ?_
    · intro i H3 Q3 hi d3 q3
      exact ⟨_, rfl, _, rfl, a, p, xs, rfl, d3, q3⟩
    intro H3 acc s3 d3 hacc hl hg
    have l6 : acc.length ≤ 6 := by omega
    refine ⟨⟨_, rfl⟩, _, rfl, L, rfl, ⟨_, SqL.of hacc⟩, fun J hJ => ?_⟩
    refine lc_texts (K := K) (n := 40001) (SqL.of hacc) hJ (by omega) ?_ ?_
    · intro x H4 Q4 hx s4 q4
      obtain ⟨d, td, okd⟩ := hg x hx
      exact ⟨_, rfl, _, _, rfl, td.same s4, okd, fun l H5 s5 tl5 => ⟨_, _, rfl, rfl, Nat.le_trans (Nat.add_le_add tl5.1 (show ("\n" : Str).length ≤ 1 by decide)) (by decide), q4 _ _ s5 (tx_app tl5 tx_nl)⟩⟩
    intro H4 ws s4 hw lw tw
    have mw := MW_tx tw
    have mw2 : MW ws ≤ 300000 := by
      have : ws.length ≤ 6 := by omega
      have := Nat.mul_le_mul_left 40002 this
      omega
    have noe : ∀ c ∈ tl ("" : Str), c < 128 := fun c hc => by
      rw [tl_e] at hc
      simp at hc
    have tx0 : Tx 300000 (Txt.join "" ws) := tx_join (by decide) noe mw2 fun w hw => (tw w hw).2
    refine ⟨"", J, ws, rfl, rfl, .inl (SqL.of hw), Nat.le_trans (MW_sum _ (by decide) ws) (Nat.le_trans mw2 (by decide)), ?_⟩
    generalize Txt.join "" ws = x0 at tx0 ⊢
    have d4 := d3.same s4
    refine ⟨_, rfl, p, _, _, rfl, d4.at, by decide, fun n5 H5 a5 b5 s5 e5 => ⟨_, rfl, by omega, by omega, ?_⟩⟩
    have d5 := d4.move s5 e5
    refine for_range (lo := 0) (n := n5.toNat) (fun i σ H' => ∃ (x : Str) (v4 : Option V), σ = [some (.ref a), some (.ref p), some (.ref L), some (.str x), v4, none, none, none, none] ∧ Dw K H' a p xs ∧ Tx (BL i) x) ⟨x0, none, rfl, d5, tx0⟩ ?_ ?_
    · rintro i σ H6 hi ⟨x, v4, rfl, d6, tx⟩
      exact ⟨_, rfl, _, rfl, a, p, xs, x, BL i, rfl, d6, tx, BL_le (by omega), fun y H7 s7 d7 ty => ⟨_, _, rfl, d7, ty⟩⟩
    rintro σ H6 ⟨x, v4, rfl, d6, tx⟩
    have tx := tx.mono (BL_le (show n5.toNat ≤ 3 by omega))
    have hz : ∀ {y : Str}, Tx 3000000 y → y.length ≤ sizeLine := fun h => Nat.le_trans h.1 (by decide)
    refine ⟨_, rfl, p, _, _, rfl, d6.at, by decide, fun n7 H7 a7 b7 s7 e7 => ⟨rfl, _, rfl, ?_⟩⟩
    clear d6 d5 d4 d3 d2 hacc hw
    refine if_slot (fun σ' => ∃ y : Str, Tx 3000000 y ∧ σ' = [some (.ref a), some (.ref p), some (.ref L), some (.str y), v4, none, none, none, none]) ?g ?h1 ⟨x, tx, rfl⟩
    case h1 =>
      intro _ D' g
      exact ⟨_, rfl, 1, rfl, -1, rfl, x, rfl, hz tx, g _ ⟨_, tx_cut tx, rfl⟩⟩
    case g =>
      clear tx
      rintro σ' ⟨x, tx, rfl⟩
      refine ⟨_, rfl, x, rfl, hz tx, _, _, rfl, rfl, _, rfl, ?_⟩
      refine ite2 (fun _ => k _) (fun c => ?_)
      have c : ¬ (20000 : Int) < (x.length : Int) := fun z => c (decide_eq_true z)
      have tx : Tx 20000 x := ⟨by omega, tx.2⟩
      have ok := LOk.of_tx tx (by decide)
      have hne : linesOf x ≠ [] := split_ne (x := x) tl_nl (by decide)
      have nbd : ∀ ls : List Str, nb (dueD ls) = true := fun ls => (Sh.due ls).2.2
      have dpd : ∀ ls : List Str, (dueD ls).depth ≤ 9 := fun ls => (Sh.due ls).2.1
      refine ⟨_, rfl, x, rfl, ok, fun v H8 s8 t8 => ?_⟩
      refine ⟨_, rfl, x, rfl, ok, fun u H9 s9 t9 => ⟨_, rfl, u, v, _, rfl, t9, t8.same s9, nbd _, dpd _, _, rfl, iteF ?_⟩⟩
      have t8 := t8.same s9
      have nl1 : ("\n" : Str).length ≤ 1 := by decide
      have roomL : ∀ y : Str, y.length ≤ 20001 → y.length + ("\n" : Str).length ≤ sizeLine := fun y h => Nat.le_trans (Nat.add_le_add h nl1) (by decide)
      have hsz : x.length + 2 ≤ sizeLine := Nat.le_trans (show _ ≤ 20002 by have := tx.1; omega) (by decide)
      rcases due_or (linesOf x) with ⟨ds, hdue⟩ | ⟨m, hdue⟩
      · rw [hdue] at t8
        unfold readD at t8
        cases t8 with
        | @tup vt vs _ hV hA =>
        cases hA with
        | cons e0 hA =>
        cases hA with
        | cons td hA =>
        cases hA
        cases e0
        cases td with
        | @tup vd ys _ hD hB =>
        have lB := hB.length
        refine ⟨_, rfl, vt, _, 0, _, rfl, rfl, SqT.of hV, rfl, rfl, _, rfl, ?_⟩
        rw [strD]
        refine iteFb (by decide +kernel) ?_
        have ok2 : LOk (x ++ ("\n" : Str)) := LOk.of_tx (tx_app tx tx_nl) (by decide)
        refine ⟨_, rfl, _, _, rfl, rfl, roomL x (by have := tx.1; omega), _, rfl, ok2, fun u1 H10 s10 t10 => ?_⟩
        rw [due_more hdue] at t10
        refine ⟨_, rfl, vt, _, 1, _, rfl, rfl, SqT.of (s10 _ _ hV), rfl, vd, _, rfl, .inr (SqT.of (s10 _ _ hD)), _, _, rfl, rfl, by show 2 ≤ sizeLine; decide, fun t ht => ?_⟩
        have e1 : ((ys.length : Int) + 1) = ((ds.length + 1 : Nat) : Int) := by omega
        have z := same_new (o := .tup [V.str "bad", .int ((ys.length : Int) + 1)]) ht
        refine ⟨u1, .ref t, badD (ds.length + 1), rfl, t10.same z, ?_, ?_, ?_, k _⟩
        · unfold badD
          rw [← e1]
          exact .tup upd_same (.cons (.str _) (.cons (.int _) .nil))
        · have := nbd (linesOf (x ++ ("\n" : Str)))
          rw [due_more hdue] at this
          exact this
        · have := dpd (linesOf (x ++ ("\n" : Str)))
          rw [due_more hdue] at this
          exact this
      · obtain ⟨m1, m2, ahead⟩ := ahead_good hdue hne
        rw [hdue] at t8
        unfold badD at t8
        cases t8 with
        | @tup vt vs _ hV hA =>
        cases hA with
        | cons e0 hA =>
        cases hA with
        | cons td hA =>
        cases hA
        cases e0
        cases td
        refine ⟨_, rfl, vt, _, 0, _, rfl, rfl, SqT.of hV, rfl, rfl, _, rfl, ?_⟩
        rw [strD]
        refine iteTb (by decide +kernel) ?_
        refine ⟨⟨_, rfl⟩, _, rfl, ⟨_, rfl⟩, x, _, rfl, rfl, by decide +kernel, hsz, fun S hS => ?_⟩
        have zS := same_new (o := .lst ((Txt.split x "\n").map V.str)) hS
        refine ⟨_, rfl, vt, _, 1, _, rfl, rfl, SqT.of (zS _ _ hV), rfl, _, _, rfl, rfl, _, rfl, S, _, rfl, SqL.of upd_same, fun q hq => ?_⟩
        have ec : cutV ((Txt.split x "\n").map V.str) none (some ((m : Int) - 1)) = ((linesOf x).take (m - 1)).map V.str := cut_toE V.str (linesOf x) (by omega)
        rw [ec]
        have mw : MW ((linesOf x).take (m - 1)) ≤ 20001 := Nat.le_trans (MW_take _ _) (by have := MW_splitN x; have := tx.1; show MW (Txt.split x "\n") ≤ _; omega)
        have nonl : ∀ l ∈ (linesOf x).take (m - 1), 10 ∉ tl l := fun l hl => (split_mem (x := x) tl_nl (by decide) (List.mem_of_mem_take hl)).2.2
        have asc : ∀ l ∈ (linesOf x).take (m - 1), ∀ c ∈ tl l, c < 128 := fun l hl c hc => tx.2 c ((split_mem (x := x) tl_nl (by decide) (List.mem_of_mem_take hl)).2.1 c hc)
        generalize (linesOf x).take (m - 1) = ls at mw nonl asc ahead
        have mlen := MW_len ls
        refine ⟨q, rfl, ⟨_, SqL.of upd_same⟩, fun J hJ => lc_map (K := K) nlV (SqL.of upd_same) hJ ?_ ?_ ?_⟩
        · rw [List.length_map]
          exact Nat.le_trans (show _ ≤ 20001 by omega) (by decide)
        · intro i y H10 Q10 hy s10 q10
          rw [List.getElem?_map] at hy
          obtain ⟨l, hl, rfl⟩ := Option.map_eq_some_iff.mp hy
          have := MW_mem (List.mem_of_getElem? hl)
          exact ⟨_, rfl, _, _, rfl, rfl, roomL l (by omega), q10 _ _ (Same.refl _) (.str _)⟩
        · intro H10 acc s10 hacc ht
          have em : (ls.map V.str).map nlV = (ls.map fun l => l ++ ("\n" : Str)).map PyData.str := by
            rw [List.map_map, List.map_map]
            rfl
          rw [em] at ht
          rw [ht.strs_inv] at hacc
          have lin := lines_join nonl
          have mj : (((ls.map fun l => l ++ ("\n" : Str)).map fun w => w.length).sum + (ls.map fun l => l ++ ("\n" : Str)).length * ("" : Str).length) ≤ 20001 := by
            have e : ((ls.map fun l => l ++ ("\n" : Str)).map fun w => w.length).sum = MW ls := by
              rw [List.map_map]
              unfold MW
              congr 1
              refine List.map_congr_left fun l _ => ?_
              show (l ++ ("\n" : Str)).length = l.length + 1
              rw [len_tl, tl_append, tl_nl, List.length_append, ← len_tl]
              rfl
            rw [e, show ("" : Str).length = 0 by decide, Nat.mul_zero]
            omega
          have ty : LOk (Txt.join "" (ls.map fun l => l ++ ("\n" : Str))) := by
            constructor
            · rw [join_eq, len_tl, tl_join]
              refine Nat.le_trans (joinL_len _ _) (Nat.le_trans ?_ mj)
              rw [List.map_map, List.length_map, ← len_tl]
              have e : ((ls.map fun l => l ++ ("\n" : Str)).map (List.length ∘ tl)) = (ls.map fun l => l ++ ("\n" : Str)).map fun w => w.length := List.map_congr_left fun w _ => (len_tl w).symm
              rw [e]
              exact Nat.le_refl _
            · intro c hc
              rw [join_eq, tl_join] at hc
              rcases joinL_mem _ _ c hc with hc | ⟨p, hp, hc⟩
              · exact Nat.lt_trans (noe c hc) (by decide)
              · obtain ⟨w, hw, rfl⟩ := List.mem_map.mp hp
                obtain ⟨l, hl, rfl⟩ := List.mem_map.mp hw
                rw [tl_append] at hc
                rcases List.mem_append.mp hc with hc | hc
                · exact Nat.lt_trans (asc l hl c hc) (by decide)
                · exact Nat.lt_trans (tx_nl.2 c hc) (by decide)
          refine ⟨"", J, _, rfl, rfl, .inl (SqL.of hacc), Nat.le_trans mj (by decide), ?_⟩
          generalize Txt.join "" (ls.map fun l => l ++ ("\n" : Str)) = y at lin ty
          have dy := due_before ahead
          rw [← lin] at dy
          refine ⟨_, rfl, y, rfl, ty, fun u1 H11 s11 t11 => ⟨_, rfl, y, rfl, ty, fun v1 H12 s12 t12 => ⟨u1, v1, _, rfl, t11.same s12, t12, nbd _, dpd _, true, rfl, iteT ⟨_, rfl, y, rfl, ty, fun v2 H13 s13 t13 => ?_⟩⟩⟩⟩
          rw [dy] at t13
          unfold readD at t13
          cases t13 with
          | @tup wt ws2 _ hW hC =>
          cases hC with
          | cons e0 hC =>
          cases e0
          refine ⟨wt, _, 0, .str "read", rfl, rfl, SqT.of hW, atI_nat (j := 0) rfl, rfl, ?_⟩
          rw [decide_eq_true rfl]
          exact k _
end
end K99

/-! K99Z1 -/
set_option Elab.async false
set_option linter.all false
set_option maxRecDepth 100000
set_option maxHeartbeats 4000000
namespace K99
open PySem L2
theorem kit_of {K : PySem.W.Frag} {B C : Addr} {b : Bool} (h : PySem.W.hasDictIn K C = true) (t : PySem.W.typeIn K (.ref C) = some (.type "type")) (self : PySem.W.subIn K (.ref B) (.ref B) = some true) (s : PySem.W.subIn K (.ref B) (.ref C) = some b) : PySem.W.kitOne K (.ref B) (.ref C) = some b := by
  unfold PySem.W.kitOne
  by_cases e : B = C
  · subst e
    rw [if_pos (beq_self_eq_true _), ← self, s]
  · rw [if_neg (fun z => e (Value.ref.inj (beq_iff_eq.mp z)))]
    obtain ⟨cd, hc, _⟩ := PySem.W.any_some h
    show (if ((PySem.W.clsIn K C).isSome && PySem.W.typeIn K (.ref C) == some (.type "type")) = true then PySem.W.subIn K (.ref B) (.ref C) else none) = some b
    rw [if_pos (by rw [hc, t] <;> rfl), s]
theorem kit_ve {K : PySem.W.Frag} {B : Addr} (s : PySem.W.subIn K (.ref B) (.type "ValueError") = some true) : PySem.W.kitOne K (.ref B) (.type "ValueError") = some true := by
  unfold PySem.W.kitOne
  rw [if_neg (show ¬ ((Value.ref B == Value.type "ValueError") = true) from fun z => Value.noConfusion (beq_iff_eq.mp z))]
  show (if PySem.W.kitMeta "ValueError" = true then PySem.W.subIn K (.ref B) (.type "ValueError") else none) = some true
  rw [if_pos (by decide +kernel), s]
theorem src_mk {K : PySem.W.Frag} {mg : Str → Option Value} {x : Str} {st : Stmt} {ps : List Str} {f : Addr} {oc : Value} {od an : Option Addr} {osl : Array (Option Value)} {kV doc pm cdv ct : Value} (g : mg x = some (.ref f))
    (l : K.lookup f = some ⟨oc, od, .func (PySem.W.fnOf x x (defArgs st) (defBody st) (defScope st) .none kV doc pm an cdv ct), osl⟩) (c : PySem.W.codeIn K cdv x = true) (k : PySem.W.keepIn K (.ref f) = true)
    (b : ∀ (kV doc pm : Value) (an : Option Addr) (cdv ct : Value) (us : List Value), us.length = ps.length → bindArgs (PySem.W.fnOf x x (defArgs st) (defBody st) (defScope st) .none kV doc pm an cdv ct) ⟨us, []⟩ = pure (ps.zip us)) : Src K mg x st ps :=
  ⟨f, _, g, fun_mk l c k, (fun_mk l c k).binds b⟩
theorem num_keys {K : PySem.W.Frag} {D : Addr} {h1 h2 h3 h4 : Int} {t1 t2 t3 t4 u1 u2 u3 u4 : Tok} {n : Nat} (l : K.lookup D = some ⟨.type "dict", none, .dict #[⟨h1, .str "offer" t1, .int 3 u1⟩, ⟨h2, .str "cancel" t2, .int 1 u2⟩, ⟨h3, .str "undo" t3, .int 0 u3⟩, ⟨h4, .str "redo" t4, .int 0 u4⟩] n, #[]⟩) (x : Str) :
    ∃ r, PySem.W.nsIn K D x = some r ∧ (match needs x with | some k => ∃ u, r = some u ∧ RelV (.int (k : Int)) u | none => r = none) := by
  have key : ∀ (y : Str) (t : Tok), (Value.str y t).isStr x = (y == x) := fun y t => rfl
  unfold PySem.W.nsIn
  rw [l]
  dsimp only
  simp only [List.find?_cons, key, List.find?_nil]
  by_cases c1 : x = "offer"
  · subst c1
    exact ⟨_, rfl, _, rfl, _, rfl⟩
  by_cases c2 : x = "cancel"
  · subst c2
    exact ⟨_, rfl, _, rfl, _, rfl⟩
  by_cases c3 : x = "undo"
  · subst c3
    exact ⟨_, rfl, _, rfl, _, rfl⟩
  by_cases c4 : x = "redo"
  · subst c4
    exact ⟨_, rfl, _, rfl, _, rfl⟩
  have b : ∀ y : Str, x ≠ y → (y == x) = false := fun y h => beq_eq_false_iff_ne.mpr (Ne.symm h)
  have hn : needs x = none := by
    unfold needs
    rw [if_neg c1, if_neg c2, if_neg (fun z => z.elim c3 c4)]
  rw [b _ c1, b _ c2, b _ c3, b _ c4, hn]
  exact ⟨none, rfl, rfl⟩
theorem all_mk {w : World} {K : PySem.W.Frag} {h : Heap} {mg : Str → Option Value} (X : K.In h) (G : h.Ns mainGlobals mg)
    {od13 an13 : Option Addr} {sl13 : Array (Option Value)} {oc13 kV13 dc13 pm13 cd13 ct13 : Value} {f13 : Addr}
    {od14 an14 : Option Addr} {sl14 : Array (Option Value)} {oc14 kV14 dc14 pm14 cd14 ct14 : Value} {f14 : Addr}
    {od15 an15 : Option Addr} {sl15 : Array (Option Value)} {oc15 kV15 dc15 pm15 cd15 ct15 : Value} {f15 : Addr}
    {od16 an16 : Option Addr} {sl16 : Array (Option Value)} {oc16 kV16 dc16 pm16 cd16 ct16 : Value} {f16 : Addr}
    {od17 an17 : Option Addr} {sl17 : Array (Option Value)} {oc17 kV17 dc17 pm17 cd17 ct17 : Value} {f17 : Addr}
    {od18 an18 : Option Addr} {sl18 : Array (Option Value)} {oc18 kV18 dc18 pm18 cd18 ct18 : Value} {f18 : Addr}
    {od19 an19 : Option Addr} {sl19 : Array (Option Value)} {oc19 kV19 dc19 pm19 cd19 ct19 : Value} {f19 : Addr}
    {od20 an20 : Option Addr} {sl20 : Array (Option Value)} {oc20 kV20 dc20 pm20 cd20 ct20 : Value} {f20 : Addr}
    {od21 an21 : Option Addr} {sl21 : Array (Option Value)} {oc21 kV21 dc21 pm21 cd21 ct21 : Value} {f21 : Addr}
    {od22 an22 : Option Addr} {sl22 : Array (Option Value)} {oc22 kV22 dc22 pm22 cd22 ct22 : Value} {f22 : Addr}
    {od25 an25 : Option Addr} {sl25 : Array (Option Value)} {oc25 kV25 dc25 pm25 cd25 ct25 : Value} {f25 : Addr}
    {od26 an26 : Option Addr} {sl26 : Array (Option Value)} {oc26 kV26 dc26 pm26 cd26 ct26 : Value} {f26 : Addr}
    {od28 an28 : Option Addr} {sl28 : Array (Option Value)} {oc28 kV28 dc28 pm28 cd28 ct28 : Value} {f28 : Addr}
    {od29 an29 : Option Addr} {sl29 : Array (Option Value)} {oc29 kV29 dc29 pm29 cd29 ct29 : Value} {f29 : Addr}
    {od30 an30 : Option Addr} {sl30 : Array (Option Value)} {oc30 kV30 dc30 pm30 cd30 ct30 : Value} {f30 : Addr}
    {od31 an31 : Option Addr} {sl31 : Array (Option Value)} {oc31 kV31 dc31 pm31 cd31 ct31 : Value} {f31 : Addr}
    {od32 an32 : Option Addr} {sl32 : Array (Option Value)} {oc32 kV32 dc32 pm32 cd32 ct32 : Value} {f32 : Addr}
    {od33 an33 : Option Addr} {sl33 : Array (Option Value)} {oc33 kV33 dc33 pm33 cd33 ct33 : Value} {f33 : Addr}
    {od34 an34 : Option Addr} {sl34 : Array (Option Value)} {oc34 kV34 dc34 pm34 cd34 ct34 : Value} {f34 : Addr}
    {od35 an35 : Option Addr} {sl35 : Array (Option Value)} {oc35 kV35 dc35 pm35 cd35 ct35 : Value} {f35 : Addr}
    {od36 an36 : Option Addr} {sl36 : Array (Option Value)} {oc36 kV36 dc36 pm36 cd36 ct36 : Value} {f36 : Addr}
    {od37 an37 : Option Addr} {sl37 : Array (Option Value)} {oc37 kV37 dc37 pm37 cd37 ct37 : Value} {f37 : Addr}
    {od38 an38 : Option Addr} {sl38 : Array (Option Value)} {oc38 kV38 dc38 pm38 cd38 ct38 : Value} {f38 : Addr}
    {od39 an39 : Option Addr} {sl39 : Array (Option Value)} {oc39 kV39 dc39 pm39 cd39 ct39 : Value} {f39 : Addr}
    {od40 an40 : Option Addr} {sl40 : Array (Option Value)} {oc40 kV40 dc40 pm40 cd40 ct40 : Value} {f40 : Addr}
    {od41 an41 : Option Addr} {sl41 : Array (Option Value)} {oc41 kV41 dc41 pm41 cd41 ct41 : Value} {f41 : Addr}
    {od42 an42 : Option Addr} {sl42 : Array (Option Value)} {oc42 kV42 dc42 pm42 cd42 ct42 : Value} {f42 : Addr}
    {od43 an43 : Option Addr} {sl43 : Array (Option Value)} {oc43 kV43 dc43 pm43 cd43 ct43 : Value} {f43 : Addr}
    {od44 an44 : Option Addr} {sl44 : Array (Option Value)} {oc44 kV44 dc44 pm44 cd44 ct44 : Value} {f44 : Addr}
    {od45 an45 : Option Addr} {sl45 : Array (Option Value)} {oc45 kV45 dc45 pm45 cd45 ct45 : Value} {f45 : Addr}
    {od46 an46 : Option Addr} {sl46 : Array (Option Value)} {oc46 kV46 dc46 pm46 cd46 ct46 : Value} {f46 : Addr}
    {od47 an47 : Option Addr} {sl47 : Array (Option Value)} {oc47 kV47 dc47 pm47 cd47 ct47 : Value} {f47 : Addr}
    {od48 an48 : Option Addr} {sl48 : Array (Option Value)} {oc48 kV48 dc48 pm48 cd48 ct48 : Value} {f48 : Addr}
    {od49 an49 : Option Addr} {sl49 : Array (Option Value)} {oc49 kV49 dc49 pm49 cd49 ct49 : Value} {f49 : Addr}
    {od50 an50 : Option Addr} {sl50 : Array (Option Value)} {oc50 kV50 dc50 pm50 cd50 ct50 : Value} {f50 : Addr}
    {od51 an51 : Option Addr} {sl51 : Array (Option Value)} {oc51 kV51 dc51 pm51 cd51 ct51 : Value} {f51 : Addr}
    {od52 an52 : Option Addr} {sl52 : Array (Option Value)} {oc52 kV52 dc52 pm52 cd52 ct52 : Value} {f52 : Addr}
    {od53 an53 : Option Addr} {sl53 : Array (Option Value)} {oc53 kV53 dc53 pm53 cd53 ct53 : Value} {f53 : Addr}
    {tD tM t1 t2 t3 t4 u1 u2 u3 u4 : Tok} {h1 h2 h3 h4 : Int} {nN : Nat} {D CE BT : Addr}
    {nmX qX : Str} {NX : Addr} {bsX : List Value} {snX : List Str} {subX : List Value} {abX : Bool} {colX : Option Bool} {ddX : Option Addr} {m0 m1 m2 m3 m5 : Option Value}
    {odI anI : Option Addr} {slI : Array (Option Value)} {ocI kVI dcI pmI cdI ctI : Value} {fI : Addr}
    {CInvalidWeb : Addr}
    {CNotSound : Addr}
    {CBadText : Addr}
    {CNoHouse : Addr}
    {CNoContract : Addr}
    {CNoLetter : Addr}
    {CNothingToUndo : Addr}
    {CNothingToRedo : Addr}
    (a13 : PySem.W.nsIn K mainGlobals "is_integer_text" = some (some (.ref f13)))
    (l13 : K.lookup f13 = some ⟨oc13, od13, .func (PySem.W.fnOf "is_integer_text" "is_integer_text" (defArgs (top 13)) (defBody (top 13)) (defScope (top 13)) .none kV13 dc13 pm13 an13 cd13 ct13), sl13⟩)
    (c13 : PySem.W.codeIn K cd13 "is_integer_text" = true)
    (k13 : PySem.W.keepIn K (.ref f13) = true)
    (a14 : PySem.W.nsIn K mainGlobals "read_numbers" = some (some (.ref f14)))
    (l14 : K.lookup f14 = some ⟨oc14, od14, .func (PySem.W.fnOf "read_numbers" "read_numbers" (defArgs (top 14)) (defBody (top 14)) (defScope (top 14)) .none kV14 dc14 pm14 an14 cd14 ct14), sl14⟩)
    (c14 : PySem.W.codeIn K cd14 "read_numbers" = true)
    (k14 : PySem.W.keepIn K (.ref f14) = true)
    (a15 : PySem.W.nsIn K mainGlobals "parts_behind" = some (some (.ref f15)))
    (l15 : K.lookup f15 = some ⟨oc15, od15, .func (PySem.W.fnOf "parts_behind" "parts_behind" (defArgs (top 15)) (defBody (top 15)) (defScope (top 15)) .none kV15 dc15 pm15 an15 cd15 ct15), sl15⟩)
    (c15 : PySem.W.codeIn K cd15 "parts_behind" = true)
    (k15 : PySem.W.keepIn K (.ref f15) = true)
    (a16 : PySem.W.nsIn K mainGlobals "read_table" = some (some (.ref f16)))
    (l16 : K.lookup f16 = some ⟨oc16, od16, .func (PySem.W.fnOf "read_table" "read_table" (defArgs (top 16)) (defBody (top 16)) (defScope (top 16)) .none kV16 dc16 pm16 an16 cd16 ct16), sl16⟩)
    (c16 : PySem.W.codeIn K cd16 "read_table" = true)
    (k16 : PySem.W.keepIn K (.ref f16) = true)
    (a17 : PySem.W.nsIn K mainGlobals "read_wishes" = some (some (.ref f17)))
    (l17 : K.lookup f17 = some ⟨oc17, od17, .func (PySem.W.fnOf "read_wishes" "read_wishes" (defArgs (top 17)) (defBody (top 17)) (defScope (top 17)) .none kV17 dc17 pm17 an17 cd17 ct17), sl17⟩)
    (c17 : PySem.W.codeIn K cd17 "read_wishes" = true)
    (k17 : PySem.W.keepIn K (.ref f17) = true)
    (a18 : PySem.W.nsIn K mainGlobals "read_groups" = some (some (.ref f18)))
    (l18 : K.lookup f18 = some ⟨oc18, od18, .func (PySem.W.fnOf "read_groups" "read_groups" (defArgs (top 18)) (defBody (top 18)) (defScope (top 18)) .none kV18 dc18 pm18 an18 cd18 ct18), sl18⟩)
    (c18 : PySem.W.codeIn K cd18 "read_groups" = true)
    (k18 : PySem.W.keepIn K (.ref f18) = true)
    (a19 : PySem.W.nsIn K mainGlobals "read_side" = some (some (.ref f19)))
    (l19 : K.lookup f19 = some ⟨oc19, od19, .func (PySem.W.fnOf "read_side" "read_side" (defArgs (top 19)) (defBody (top 19)) (defScope (top 19)) .none kV19 dc19 pm19 an19 cd19 ct19), sl19⟩)
    (c19 : PySem.W.codeIn K cd19 "read_side" = true)
    (k19 : PySem.W.keepIn K (.ref f19) = true)
    (a20 : PySem.W.nsIn K mainGlobals "read_caps" = some (some (.ref f20)))
    (l20 : K.lookup f20 = some ⟨oc20, od20, .func (PySem.W.fnOf "read_caps" "read_caps" (defArgs (top 20)) (defBody (top 20)) (defScope (top 20)) .none kV20 dc20 pm20 an20 cd20 ct20), sl20⟩)
    (c20 : PySem.W.codeIn K cd20 "read_caps" = true)
    (k20 : PySem.W.keepIn K (.ref f20) = true)
    (a21 : PySem.W.nsIn K mainGlobals "read_part" = some (some (.ref f21)))
    (l21 : K.lookup f21 = some ⟨oc21, od21, .func (PySem.W.fnOf "read_part" "read_part" (defArgs (top 21)) (defBody (top 21)) (defScope (top 21)) .none kV21 dc21 pm21 an21 cd21 ct21), sl21⟩)
    (c21 : PySem.W.codeIn K cd21 "read_part" = true)
    (k21 : PySem.W.keepIn K (.ref f21) = true)
    (a22 : PySem.W.nsIn K mainGlobals "read_choice" = some (some (.ref f22)))
    (l22 : K.lookup f22 = some ⟨oc22, od22, .func (PySem.W.fnOf "read_choice" "read_choice" (defArgs (top 22)) (defBody (top 22)) (defScope (top 22)) .none kV22 dc22 pm22 an22 cd22 ct22), sl22⟩)
    (c22 : PySem.W.codeIn K cd22 "read_choice" = true)
    (k22 : PySem.W.keepIn K (.ref f22) = true)
    (a25 : PySem.W.nsIn K mainGlobals "read_deed" = some (some (.ref f25)))
    (l25 : K.lookup f25 = some ⟨oc25, od25, .func (PySem.W.fnOf "read_deed" "read_deed" (defArgs (top 25)) (defBody (top 25)) (defScope (top 25)) .none kV25 dc25 pm25 an25 cd25 ct25), sl25⟩)
    (c25 : PySem.W.codeIn K cd25 "read_deed" = true)
    (k25 : PySem.W.keepIn K (.ref f25) = true)
    (a26 : PySem.W.nsIn K mainGlobals "read_journal" = some (some (.ref f26)))
    (l26 : K.lookup f26 = some ⟨oc26, od26, .func (PySem.W.fnOf "read_journal" "read_journal" (defArgs (top 26)) (defBody (top 26)) (defScope (top 26)) .none kV26 dc26 pm26 an26 cd26 ct26), sl26⟩)
    (c26 : PySem.W.codeIn K cd26 "read_journal" = true)
    (k26 : PySem.W.keepIn K (.ref f26) = true)
    (a28 : PySem.W.nsIn K mainGlobals "_law_draws" = some (some (.ref f28)))
    (l28 : K.lookup f28 = some ⟨oc28, od28, .func (PySem.W.fnOf "_law_draws" "_law_draws" (defArgs (top 28)) (defBody (top 28)) (defScope (top 28)) .none kV28 dc28 pm28 an28 cd28 ct28), sl28⟩)
    (c28 : PySem.W.codeIn K cd28 "_law_draws" = true)
    (k28 : PySem.W.keepIn K (.ref f28) = true)
    (a29 : PySem.W.nsIn K mainGlobals "_law_take" = some (some (.ref f29)))
    (l29 : K.lookup f29 = some ⟨oc29, od29, .func (PySem.W.fnOf "_law_take" "_law_take" (defArgs (top 29)) (defBody (top 29)) (defScope (top 29)) .none kV29 dc29 pm29 an29 cd29 ct29), sl29⟩)
    (c29 : PySem.W.codeIn K cd29 "_law_take" = true)
    (k29 : PySem.W.keepIn K (.ref f29) = true)
    (a30 : PySem.W.nsIn K mainGlobals "_law_number" = some (some (.ref f30)))
    (l30 : K.lookup f30 = some ⟨oc30, od30, .func (PySem.W.fnOf "_law_number" "_law_number" (defArgs (top 30)) (defBody (top 30)) (defScope (top 30)) .none kV30 dc30 pm30 an30 cd30 ct30), sl30⟩)
    (c30 : PySem.W.codeIn K cd30 "_law_number" = true)
    (k30 : PySem.W.keepIn K (.ref f30) = true)
    (a31 : PySem.W.nsIn K mainGlobals "_law_numbers" = some (some (.ref f31)))
    (l31 : K.lookup f31 = some ⟨oc31, od31, .func (PySem.W.fnOf "_law_numbers" "_law_numbers" (defArgs (top 31)) (defBody (top 31)) (defScope (top 31)) .none kV31 dc31 pm31 an31 cd31 ct31), sl31⟩)
    (c31 : PySem.W.codeIn K cd31 "_law_numbers" = true)
    (k31 : PySem.W.keepIn K (.ref f31) = true)
    (a32 : PySem.W.nsIn K mainGlobals "_law_caps" = some (some (.ref f32)))
    (l32 : K.lookup f32 = some ⟨oc32, od32, .func (PySem.W.fnOf "_law_caps" "_law_caps" (defArgs (top 32)) (defBody (top 32)) (defScope (top 32)) .none kV32 dc32 pm32 an32 cd32 ct32), sl32⟩)
    (c32 : PySem.W.codeIn K cd32 "_law_caps" = true)
    (k32 : PySem.W.keepIn K (.ref f32) = true)
    (a33 : PySem.W.nsIn K mainGlobals "_law_part" = some (some (.ref f33)))
    (l33 : K.lookup f33 = some ⟨oc33, od33, .func (PySem.W.fnOf "_law_part" "_law_part" (defArgs (top 33)) (defBody (top 33)) (defScope (top 33)) .none kV33 dc33 pm33 an33 cd33 ct33), sl33⟩)
    (c33 : PySem.W.codeIn K cd33 "_law_part" = true)
    (k33 : PySem.W.keepIn K (.ref f33) = true)
    (a34 : PySem.W.nsIn K mainGlobals "_law_any_deed" = some (some (.ref f34)))
    (l34 : K.lookup f34 = some ⟨oc34, od34, .func (PySem.W.fnOf "_law_any_deed" "_law_any_deed" (defArgs (top 34)) (defBody (top 34)) (defScope (top 34)) .none kV34 dc34 pm34 an34 cd34 ct34), sl34⟩)
    (c34 : PySem.W.codeIn K cd34 "_law_any_deed" = true)
    (k34 : PySem.W.keepIn K (.ref f34) = true)
    (a35 : PySem.W.nsIn K mainGlobals "_law_texts" = some (some (.ref f35)))
    (l35 : K.lookup f35 = some ⟨oc35, od35, .func (PySem.W.fnOf "_law_texts" "_law_texts" (defArgs (top 35)) (defBody (top 35)) (defScope (top 35)) .none kV35 dc35 pm35 an35 cd35 ct35), sl35⟩)
    (c35 : PySem.W.codeIn K cd35 "_law_texts" = true)
    (k35 : PySem.W.keepIn K (.ref f35) = true)
    (a36 : PySem.W.nsIn K mainGlobals "_law_group_words" = some (some (.ref f36)))
    (l36 : K.lookup f36 = some ⟨oc36, od36, .func (PySem.W.fnOf "_law_group_words" "_law_group_words" (defArgs (top 36)) (defBody (top 36)) (defScope (top 36)) .none kV36 dc36 pm36 an36 cd36 ct36), sl36⟩)
    (c36 : PySem.W.codeIn K cd36 "_law_group_words" = true)
    (k36 : PySem.W.keepIn K (.ref f36) = true)
    (a37 : PySem.W.nsIn K mainGlobals "_law_choice_words" = some (some (.ref f37)))
    (l37 : K.lookup f37 = some ⟨oc37, od37, .func (PySem.W.fnOf "_law_choice_words" "_law_choice_words" (defArgs (top 37)) (defBody (top 37)) (defScope (top 37)) .none kV37 dc37 pm37 an37 cd37 ct37), sl37⟩)
    (c37 : PySem.W.codeIn K cd37 "_law_choice_words" = true)
    (k37 : PySem.W.keepIn K (.ref f37) = true)
    (a38 : PySem.W.nsIn K mainGlobals "_law_line" = some (some (.ref f38)))
    (l38 : K.lookup f38 = some ⟨oc38, od38, .func (PySem.W.fnOf "_law_line" "_law_line" (defArgs (top 38)) (defBody (top 38)) (defScope (top 38)) .none kV38 dc38 pm38 an38 cd38 ct38), sl38⟩)
    (c38 : PySem.W.codeIn K cd38 "_law_line" = true)
    (k38 : PySem.W.keepIn K (.ref f38) = true)
    (a39 : PySem.W.nsIn K mainGlobals "_law_integer" = some (some (.ref f39)))
    (l39 : K.lookup f39 = some ⟨oc39, od39, .func (PySem.W.fnOf "_law_integer" "_law_integer" (defArgs (top 39)) (defBody (top 39)) (defScope (top 39)) .none kV39 dc39 pm39 an39 cd39 ct39), sl39⟩)
    (c39 : PySem.W.codeIn K cd39 "_law_integer" = true)
    (k39 : PySem.W.keepIn K (.ref f39) = true)
    (a40 : PySem.W.nsIn K mainGlobals "_law_integers" = some (some (.ref f40)))
    (l40 : K.lookup f40 = some ⟨oc40, od40, .func (PySem.W.fnOf "_law_integers" "_law_integers" (defArgs (top 40)) (defBody (top 40)) (defScope (top 40)) .none kV40 dc40 pm40 an40 cd40 ct40), sl40⟩)
    (c40 : PySem.W.codeIn K cd40 "_law_integers" = true)
    (k40 : PySem.W.keepIn K (.ref f40) = true)
    (a41 : PySem.W.nsIn K mainGlobals "_law_cut" = some (some (.ref f41)))
    (l41 : K.lookup f41 = some ⟨oc41, od41, .func (PySem.W.fnOf "_law_cut" "_law_cut" (defArgs (top 41)) (defBody (top 41)) (defScope (top 41)) .none kV41 dc41 pm41 an41 cd41 ct41), sl41⟩)
    (c41 : PySem.W.codeIn K cd41 "_law_cut" = true)
    (k41 : PySem.W.keepIn K (.ref f41) = true)
    (a42 : PySem.W.nsIn K mainGlobals "_law_read_side" = some (some (.ref f42)))
    (l42 : K.lookup f42 = some ⟨oc42, od42, .func (PySem.W.fnOf "_law_read_side" "_law_read_side" (defArgs (top 42)) (defBody (top 42)) (defScope (top 42)) .none kV42 dc42 pm42 an42 cd42 ct42), sl42⟩)
    (c42 : PySem.W.codeIn K cd42 "_law_read_side" = true)
    (k42 : PySem.W.keepIn K (.ref f42) = true)
    (a43 : PySem.W.nsIn K mainGlobals "_law_read_wishes" = some (some (.ref f43)))
    (l43 : K.lookup f43 = some ⟨oc43, od43, .func (PySem.W.fnOf "_law_read_wishes" "_law_read_wishes" (defArgs (top 43)) (defBody (top 43)) (defScope (top 43)) .none kV43 dc43 pm43 an43 cd43 ct43), sl43⟩)
    (c43 : PySem.W.codeIn K cd43 "_law_read_wishes" = true)
    (k43 : PySem.W.keepIn K (.ref f43) = true)
    (a44 : PySem.W.nsIn K mainGlobals "_law_read_choice" = some (some (.ref f44)))
    (l44 : K.lookup f44 = some ⟨oc44, od44, .func (PySem.W.fnOf "_law_read_choice" "_law_read_choice" (defArgs (top 44)) (defBody (top 44)) (defScope (top 44)) .none kV44 dc44 pm44 an44 cd44 ct44), sl44⟩)
    (c44 : PySem.W.codeIn K cd44 "_law_read_choice" = true)
    (k44 : PySem.W.keepIn K (.ref f44) = true)
    (a45 : PySem.W.nsIn K mainGlobals "_law_read_deed" = some (some (.ref f45)))
    (l45 : K.lookup f45 = some ⟨oc45, od45, .func (PySem.W.fnOf "_law_read_deed" "_law_read_deed" (defArgs (top 45)) (defBody (top 45)) (defScope (top 45)) .none kV45 dc45 pm45 an45 cd45 ct45), sl45⟩)
    (c45 : PySem.W.codeIn K cd45 "_law_read_deed" = true)
    (k45 : PySem.W.keepIn K (.ref f45) = true)
    (a46 : PySem.W.nsIn K mainGlobals "_law_due" = some (some (.ref f46)))
    (l46 : K.lookup f46 = some ⟨oc46, od46, .func (PySem.W.fnOf "_law_due" "_law_due" (defArgs (top 46)) (defBody (top 46)) (defScope (top 46)) .none kV46 dc46 pm46 an46 cd46 ct46), sl46⟩)
    (c46 : PySem.W.codeIn K cd46 "_law_due" = true)
    (k46 : PySem.W.keepIn K (.ref f46) = true)
    (a47 : PySem.W.nsIn K mainGlobals "_law_same" = some (some (.ref f47)))
    (l47 : K.lookup f47 = some ⟨oc47, od47, .func (PySem.W.fnOf "_law_same" "_law_same" (defArgs (top 47)) (defBody (top 47)) (defScope (top 47)) .none kV47 dc47 pm47 an47 cd47 ct47), sl47⟩)
    (c47 : PySem.W.codeIn K cd47 "_law_same" = true)
    (k47 : PySem.W.keepIn K (.ref f47) = true)
    (a48 : PySem.W.nsIn K mainGlobals "_law_words" = some (some (.ref f48)))
    (l48 : K.lookup f48 = some ⟨oc48, od48, .func (PySem.W.fnOf "_law_words" "_law_words" (defArgs (top 48)) (defBody (top 48)) (defScope (top 48)) .none kV48 dc48 pm48 an48 cd48 ct48), sl48⟩)
    (c48 : PySem.W.codeIn K cd48 "_law_words" = true)
    (k48 : PySem.W.keepIn K (.ref f48) = true)
    (a49 : PySem.W.nsIn K mainGlobals "_law_spoilt" = some (some (.ref f49)))
    (l49 : K.lookup f49 = some ⟨oc49, od49, .func (PySem.W.fnOf "_law_spoilt" "_law_spoilt" (defArgs (top 49)) (defBody (top 49)) (defScope (top 49)) .none kV49 dc49 pm49 an49 cd49 ct49), sl49⟩)
    (c49 : PySem.W.codeIn K cd49 "_law_spoilt" = true)
    (k49 : PySem.W.keepIn K (.ref f49) = true)
    (a50 : PySem.W.nsIn K mainGlobals "_law_due_of" = some (some (.ref f50)))
    (l50 : K.lookup f50 = some ⟨oc50, od50, .func (PySem.W.fnOf "_law_due_of" "_law_due_of" (defArgs (top 50)) (defBody (top 50)) (defScope (top 50)) .none kV50 dc50 pm50 an50 cd50 ct50), sl50⟩)
    (c50 : PySem.W.codeIn K cd50 "_law_due_of" = true)
    (k50 : PySem.W.keepIn K (.ref f50) = true)
    (a51 : PySem.W.nsIn K mainGlobals "_law_read" = some (some (.ref f51)))
    (l51 : K.lookup f51 = some ⟨oc51, od51, .func (PySem.W.fnOf "_law_read" "_law_read" (defArgs (top 51)) (defBody (top 51)) (defScope (top 51)) .none kV51 dc51 pm51 an51 cd51 ct51), sl51⟩)
    (c51 : PySem.W.codeIn K cd51 "_law_read" = true)
    (k51 : PySem.W.keepIn K (.ref f51) = true)
    (a52 : PySem.W.nsIn K mainGlobals "_law_marks" = some (some (.ref f52)))
    (l52 : K.lookup f52 = some ⟨oc52, od52, .func (PySem.W.fnOf "_law_marks" "_law_marks" (defArgs (top 52)) (defBody (top 52)) (defScope (top 52)) .none kV52 dc52 pm52 an52 cd52 ct52), sl52⟩)
    (c52 : PySem.W.codeIn K cd52 "_law_marks" = true)
    (k52 : PySem.W.keepIn K (.ref f52) = true)
    (a53 : PySem.W.nsIn K mainGlobals "law" = some (some (.ref f53)))
    (l53 : K.lookup f53 = some ⟨oc53, od53, .func (PySem.W.fnOf "law" "law" (defArgs (top 53)) (defBody (top 53)) (defScope (top 53)) .none kV53 dc53 pm53 an53 cd53 ct53), sl53⟩)
    (c53 : PySem.W.codeIn K cd53 "law" = true)
    (k53 : PySem.W.keepIn K (.ref f53) = true)
    (zlen : PySem.W.nsIn K mainGlobals "len" = some none)
    (zall : PySem.W.nsIn K mainGlobals "all" = some none)
    (ztuple : PySem.W.nsIn K mainGlobals "tuple" = some none)
    (zint : PySem.W.nsIn K mainGlobals "int" = some none)
    (zstr : PySem.W.nsIn K mainGlobals "str" = some none)
    (zlist : PySem.W.nsIn K mainGlobals "list" = some none)
    (zrange : PySem.W.nsIn K mainGlobals "range" = some none)
    (zenumerate : PySem.W.nsIn K mainGlobals "enumerate" = some none)
    (zisinstance : PySem.W.nsIn K mainGlobals "isinstance" = some none)
    (zbool : PySem.W.nsIn K mainGlobals "bool" = some none)
    (zValueError : PySem.W.nsIn K mainGlobals "ValueError" = some none)
    (gD : PySem.W.nsIn K mainGlobals "DIGITS" = some (some (.str "0123456789" tD)))
    (gM : PySem.W.nsIn K mainGlobals "MOST_DIGITS" = some (some (.int 60 tM)))
    (aN : PySem.W.nsIn K mainGlobals "NUMBERS" = some (some (.ref D)))
    (lN : K.lookup D = some ⟨.type "dict", none, .dict #[⟨h1, .str "offer" t1, .int 3 u1⟩, ⟨h2, .str "cancel" t2, .int 1 u2⟩, ⟨h3, .str "undo" t3, .int 0 u3⟩, ⟨h4, .str "redo" t4, .int 0 u4⟩] nN, #[]⟩)
    (kN : PySem.W.KeysLit w.params [⟨h1, .str "offer" t1, .int 3 u1⟩, ⟨h2, .str "cancel" t2, .int 1 u2⟩, ⟨h3, .str "undo" t3, .int 0 u3⟩, ⟨h4, .str "redo" t4, .int 0 u4⟩])
    (oN : (D == sysModules) = false)
    (aCE : PySem.W.nsIn K mainGlobals "ContractError" = some (some (.ref CE)))
    (aBT : PySem.W.nsIn K mainGlobals "BadText" = some (some (.ref BT)))
    (xL : K.lookup BT = some (excClassObj nmX qX BT NX bsX [.ref CE, .type "ValueError", .type "Exception", .type "BaseException", .type "object"] true snX subX abX colX ddX m0 m1 m2 m3 m5 "ValueError.__new__"))
    (sa : PySem.W.findIn K (.ref BT) "__setattr__" = some (some (.builtin "object.__setattr__")))
    (ga : PySem.W.findIn K (.ref BT) "__getattribute__" = some (some (.builtin "BaseException.__getattribute__")))
    (gg : PySem.W.findIn K (.ref BT) "__getattr__" = some none)
    (nl : PySem.W.findIn K (.ref BT) "line" = some none)
    (eC : PySem.W.subIn K (.ref BT) (.type "BaseException") = some true)
    (tC : PySem.W.typeIn K (.ref BT) = some (.type "type"))
    (hC : PySem.W.hasDictIn K BT = true)
    (kC : PySem.W.keepIn K (.ref BT) = true)
    (ccl : PySem.W.findIn K (.ref BT) "__class__" = some (some (.builtin "object.__class__")))
    (cn : PySem.W.specialIn K (.builtin "object.__class__") "__get__" = some (some (.builtin "getset_descriptor.__get__")))
    (cht : PySem.W.takesIn K (.builtin "object.__class__") = some true)
    (cm : PySem.W.mroIn K BT (.type "object") = some true)
    (iC : PySem.W.findIn K (.ref BT) "__init__" = some (some (.ref fI)))
    (lI : K.lookup fI = some ⟨ocI, odI, .func (PySem.W.fnOf "__init__" "BadText.__init__" (defArgs (inClass (top 4) 0)) (defBody (inClass (top 4) 0)) (defScope (inClass (top 4) 0)) .none kVI dcI pmI anI cdI ctI), slI⟩)
    (cI : PySem.W.codeIn K cdI "BadText.__init__" = true)
    (kI : PySem.W.keepIn K (.ref fI) = true)
    (tI : PySem.W.typeIn K (.ref fI) = some (.type "function"))
    (eS : PySem.W.subIn K (.ref CE) (.type "BaseException") = some true)
    (eH : PySem.W.hasDictIn K CE = true)
    (eT : PySem.W.typeIn K (.ref CE) = some (.type "type"))
    (eB : PySem.W.subIn K (.ref BT) (.ref CE) = some true)
    (ve : PySem.W.subIn K (.ref BT) (.type "ValueError") = some true)
    (sf : PySem.W.subIn K (.ref BT) (.ref BT) = some true)
    (nInvalidWeb : PySem.W.nsIn K mainGlobals "InvalidWeb" = some (some (.ref CInvalidWeb)))
    (hInvalidWeb : PySem.W.hasDictIn K CInvalidWeb = true)
    (tInvalidWeb : PySem.W.typeIn K (.ref CInvalidWeb) = some (.type "type"))
    (sInvalidWeb : PySem.W.subIn K (.ref BT) (.ref CInvalidWeb) = some false)
    (nNotSound : PySem.W.nsIn K mainGlobals "NotSound" = some (some (.ref CNotSound)))
    (hNotSound : PySem.W.hasDictIn K CNotSound = true)
    (tNotSound : PySem.W.typeIn K (.ref CNotSound) = some (.type "type"))
    (sNotSound : PySem.W.subIn K (.ref BT) (.ref CNotSound) = some false)
    (nBadText : PySem.W.nsIn K mainGlobals "BadText" = some (some (.ref CBadText)))
    (hBadText : PySem.W.hasDictIn K CBadText = true)
    (tBadText : PySem.W.typeIn K (.ref CBadText) = some (.type "type"))
    (sBadText : PySem.W.subIn K (.ref BT) (.ref CBadText) = some true)
    (nNoHouse : PySem.W.nsIn K mainGlobals "NoHouse" = some (some (.ref CNoHouse)))
    (hNoHouse : PySem.W.hasDictIn K CNoHouse = true)
    (tNoHouse : PySem.W.typeIn K (.ref CNoHouse) = some (.type "type"))
    (sNoHouse : PySem.W.subIn K (.ref BT) (.ref CNoHouse) = some false)
    (nNoContract : PySem.W.nsIn K mainGlobals "NoContract" = some (some (.ref CNoContract)))
    (hNoContract : PySem.W.hasDictIn K CNoContract = true)
    (tNoContract : PySem.W.typeIn K (.ref CNoContract) = some (.type "type"))
    (sNoContract : PySem.W.subIn K (.ref BT) (.ref CNoContract) = some false)
    (nNoLetter : PySem.W.nsIn K mainGlobals "NoLetter" = some (some (.ref CNoLetter)))
    (hNoLetter : PySem.W.hasDictIn K CNoLetter = true)
    (tNoLetter : PySem.W.typeIn K (.ref CNoLetter) = some (.type "type"))
    (sNoLetter : PySem.W.subIn K (.ref BT) (.ref CNoLetter) = some false)
    (nNothingToUndo : PySem.W.nsIn K mainGlobals "NothingToUndo" = some (some (.ref CNothingToUndo)))
    (hNothingToUndo : PySem.W.hasDictIn K CNothingToUndo = true)
    (tNothingToUndo : PySem.W.typeIn K (.ref CNothingToUndo) = some (.type "type"))
    (sNothingToUndo : PySem.W.subIn K (.ref BT) (.ref CNothingToUndo) = some false)
    (nNothingToRedo : PySem.W.nsIn K mainGlobals "NothingToRedo" = some (some (.ref CNothingToRedo)))
    (hNothingToRedo : PySem.W.hasDictIn K CNothingToRedo = true)
    (tNothingToRedo : PySem.W.typeIn K (.ref CNothingToRedo) = some (.type "type"))
    (sNothingToRedo : PySem.W.subIn K (.ref BT) (.ref CNothingToRedo) = some false)
    {P : Program} {fa : Addr} (hfa : mg "law" = some (.ref fa)) : ∃ fd : FuncData, (∀ (s : Shared) (v : Value), BindsTo s fd ⟨[v], []⟩ [("_law_script", v)]) ∧ ∀ base : Heap, K.In base → base.Ns mainGlobals mg → FnOk P w K mg base CX0 11 fa fd ["_law_script"] (spLaw K) := by
  have e := hfa.symm.trans (PySem.W.mg_of X G a53)
  cases e
  have T : Txt K w mg D := ⟨PySem.W.mg_none_of X G zlen, PySem.W.mg_none_of X G zall, PySem.W.mg_none_of X G ztuple, PySem.W.mg_none_of X G zint, PySem.W.mg_none_of X G zstr, PySem.W.mg_none_of X G zlist, PySem.W.mg_none_of X G zrange, PySem.W.mg_none_of X G zenumerate, PySem.W.mg_none_of X G zisinstance, PySem.W.mg_none_of X G zbool, PySem.W.mg_none_of X G zValueError,
    ⟨_, PySem.W.mg_of X G gD, ⟨_, rfl⟩⟩, ⟨_, PySem.W.mg_of X G gM, ⟨_, rfl⟩⟩, ⟨_, PySem.W.mg_of X G aN, rfl⟩, ⟨_, _, lN, kN, oN, num_keys lN⟩,
    (src_mk (PySem.W.mg_of X G a13) l13 c13 k13 fun _ _ _ _ _ _ us hl => match us, hl with | [_], _ => rfl),
    (src_mk (PySem.W.mg_of X G a14) l14 c14 k14 fun _ _ _ _ _ _ us hl => match us, hl with | [_], _ => rfl),
    (src_mk (PySem.W.mg_of X G a15) l15 c15 k15 fun _ _ _ _ _ _ us hl => match us, hl with | [_, _], _ => rfl),
    (src_mk (PySem.W.mg_of X G a16) l16 c16 k16 fun _ _ _ _ _ _ us hl => match us, hl with | [_], _ => rfl),
    (src_mk (PySem.W.mg_of X G a17) l17 c17 k17 fun _ _ _ _ _ _ us hl => match us, hl with | [_, _], _ => rfl),
    (src_mk (PySem.W.mg_of X G a18) l18 c18 k18 fun _ _ _ _ _ _ us hl => match us, hl with | [_], _ => rfl),
    (src_mk (PySem.W.mg_of X G a19) l19 c19 k19 fun _ _ _ _ _ _ us hl => match us, hl with | [_], _ => rfl),
    (src_mk (PySem.W.mg_of X G a20) l20 c20 k20 fun _ _ _ _ _ _ us hl => match us, hl with | [_], _ => rfl),
    (src_mk (PySem.W.mg_of X G a21) l21 c21 k21 fun _ _ _ _ _ _ us hl => match us, hl with | [_], _ => rfl),
    (src_mk (PySem.W.mg_of X G a22) l22 c22 k22 fun _ _ _ _ _ _ us hl => match us, hl with | [_], _ => rfl),
    (src_mk (PySem.W.mg_of X G a25) l25 c25 k25 fun _ _ _ _ _ _ us hl => match us, hl with | [_], _ => rfl),
    (src_mk (PySem.W.mg_of X G a26) l26 c26 k26 fun _ _ _ _ _ _ us hl => match us, hl with | [_], _ => rfl),
    (src_mk (PySem.W.mg_of X G a28) l28 c28 k28 fun _ _ _ _ _ _ us hl => match us, hl with | [_, _], _ => rfl),
    (src_mk (PySem.W.mg_of X G a29) l29 c29 k29 fun _ _ _ _ _ _ us hl => match us, hl with | [_, _], _ => rfl),
    (src_mk (PySem.W.mg_of X G a30) l30 c30 k30 fun _ _ _ _ _ _ us hl => match us, hl with | [_, _], _ => rfl),
    (src_mk (PySem.W.mg_of X G a31) l31 c31 k31 fun _ _ _ _ _ _ us hl => match us, hl with | [_, _, _], _ => rfl),
    (src_mk (PySem.W.mg_of X G a32) l32 c32 k32 fun _ _ _ _ _ _ us hl => match us, hl with | [_, _], _ => rfl),
    (src_mk (PySem.W.mg_of X G a33) l33 c33 k33 fun _ _ _ _ _ _ us hl => match us, hl with | [_, _], _ => rfl),
    (src_mk (PySem.W.mg_of X G a34) l34 c34 k34 fun _ _ _ _ _ _ us hl => match us, hl with | [_, _], _ => rfl),
    (src_mk (PySem.W.mg_of X G a35) l35 c35 k35 fun _ _ _ _ _ _ us hl => match us, hl with | [_], _ => rfl),
    (src_mk (PySem.W.mg_of X G a36) l36 c36 k36 fun _ _ _ _ _ _ us hl => match us, hl with | [_], _ => rfl),
    (src_mk (PySem.W.mg_of X G a37) l37 c37 k37 fun _ _ _ _ _ _ us hl => match us, hl with | [_], _ => rfl),
    (src_mk (PySem.W.mg_of X G a38) l38 c38 k38 fun _ _ _ _ _ _ us hl => match us, hl with | [_], _ => rfl),
    (src_mk (PySem.W.mg_of X G a39) l39 c39 k39 fun _ _ _ _ _ _ us hl => match us, hl with | [_], _ => rfl),
    (src_mk (PySem.W.mg_of X G a40) l40 c40 k40 fun _ _ _ _ _ _ us hl => match us, hl with | [_], _ => rfl),
    (src_mk (PySem.W.mg_of X G a41) l41 c41 k41 fun _ _ _ _ _ _ us hl => match us, hl with | [_, _], _ => rfl),
    (src_mk (PySem.W.mg_of X G a42) l42 c42 k42 fun _ _ _ _ _ _ us hl => match us, hl with | [_], _ => rfl),
    (src_mk (PySem.W.mg_of X G a43) l43 c43 k43 fun _ _ _ _ _ _ us hl => match us, hl with | [_, _], _ => rfl),
    (src_mk (PySem.W.mg_of X G a44) l44 c44 k44 fun _ _ _ _ _ _ us hl => match us, hl with | [_, _], _ => rfl),
    (src_mk (PySem.W.mg_of X G a45) l45 c45 k45 fun _ _ _ _ _ _ us hl => match us, hl with | [_], _ => rfl),
    (src_mk (PySem.W.mg_of X G a46) l46 c46 k46 fun _ _ _ _ _ _ us hl => match us, hl with | [_], _ => rfl),
    (src_mk (PySem.W.mg_of X G a47) l47 c47 k47 fun _ _ _ _ _ _ us hl => match us, hl with | [_, _], _ => rfl),
    (src_mk (PySem.W.mg_of X G a48) l48 c48 k48 fun _ _ _ _ _ _ us hl => match us, hl with | [], _ => rfl),
    (src_mk (PySem.W.mg_of X G a49) l49 c49 k49 fun _ _ _ _ _ _ us hl => match us, hl with | [_, _], _ => rfl),
    (src_mk (PySem.W.mg_of X G a50) l50 c50 k50 fun _ _ _ _ _ _ us hl => match us, hl with | [_], _ => rfl),
    (src_mk (PySem.W.mg_of X G a51) l51 c51 k51 fun _ _ _ _ _ _ us hl => match us, hl with | [_], _ => rfl),
    (src_mk (PySem.W.mg_of X G a52) l52 c52 k52 fun _ _ _ _ _ _ us hl => match us, hl with | [_], _ => rfl),
    (src_mk (PySem.W.mg_of X G a53) l53 c53 k53 fun _ _ _ _ _ _ us hl => match us, hl with | [_], _ => rfl)⟩
  have FI := fun_mk (st := inClass (top 4) 0) lI cI kI
  have TX : TxtX K mg CE BT fI := ⟨PySem.W.mg_of X G aCE, PySem.W.mg_of X G aBT, ⟨⟨nmX, qX, NX, bsX, _, snX, subX, abX, colX, ddX, m0, m1, m2, m3, m5, xL, rfl⟩, sa, eC, tC, kC⟩, ⟨ga, gg, eC, hC⟩, ⟨ga, gg, eC, hC, ccl, cn, cht, cm⟩, nl, iC, tI, ⟨_, FI, FI.binds (ps := ["self", "line"]) fun _ _ _ _ _ _ us hl => match us, hl with | [_, _], _ => rfl⟩, PySem.W.exm_ref eS eH eT eB, ⟨_, PySem.W.mg_of X G nInvalidWeb, kit_of hInvalidWeb tInvalidWeb sf sInvalidWeb⟩, ⟨_, PySem.W.mg_of X G nNotSound, kit_of hNotSound tNotSound sf sNotSound⟩, ⟨_, PySem.W.mg_of X G nBadText, kit_of hBadText tBadText sf sBadText⟩, ⟨_, PySem.W.mg_of X G nNoHouse, kit_of hNoHouse tNoHouse sf sNoHouse⟩, ⟨_, PySem.W.mg_of X G nNoContract, kit_of hNoContract tNoContract sf sNoContract⟩, ⟨_, PySem.W.mg_of X G nNoLetter, kit_of hNoLetter tNoLetter sf sNoLetter⟩, ⟨_, PySem.W.mg_of X G nNothingToUndo, kit_of hNothingToUndo tNothingToUndo sf sNothingToUndo⟩, ⟨_, PySem.W.mg_of X G nNothingToRedo, kit_of hNothingToRedo tNothingToRedo sf sNothingToRedo⟩, kit_ve ve⟩
  exact ⟨_, fun s v => .of_eq rfl, fun base _ _ => law_ok T TX (fun_mk (st := top 53) l53 c53 k53)⟩
theorem walk {l : PySem.W.OpenLaw} {q : Program} {loose : List Str} {XP : (Str → Option Value) → Heap → Prop} {YP : World → Heap → Prop} {d : DefRec} {K : Params → PySem.W.Frag} (hn : l.most = some 63) (hdf : d.params.defaults = []) (hY : ∀ (w : World) (h : Heap), YP w h → (K w.params).In h)
    (F : ∀ (w : World) (mg : Str → Option Value) (fa : Addr) (h : Heap), (K w.params).In h → h.Ns mainGlobals mg → mg d.name = some (.ref fa) →
      ∃ fd : FuncData, (∀ (s : Shared) (u : Value), BindsTo s fd ⟨[u], []⟩ [("_law_script", u)]) ∧ ∀ base : Heap, (K w.params).In base → base.Ns mainGlobals mg → FnOk l.prog w (K w.params) mg base CX0 11 fa fd ["_law_script"] (spLaw (K w.params))) :
    PySem.W.WalkO q loose XP YP l.row.toRowW d [] (fun f vs => PySem.call f vs) :=
  L2.walk_of (n := 63) (k := 11) (x := "_law_script") (CX := fun _ => CX0) (sp := fun w => spLaw (K w.params)) hn (by decide) hdf ⟨rfl, by decide, by decide⟩ hY F (fun _ _ a ns hl _ hS => ⟨a, ns, rfl, hS, hl, fun _ => rfl⟩) fun _ _ _ _ _ z => z
end K99

/-! K99Z2 -/
set_option Elab.async false
set_option linter.all false
open PySem PySem.W PyProof.Rows
set_option maxRecDepth 100000 in
set_option maxHeartbeats 0 in
theorem PySem.Challenge.cw_nochaingains_k99_whole_any_text_of_deeds_holds : PySem.Challenge.rw_nochaingains_k99_whole_any_text_of_deeds.Holds := by
  w_on; o_law; k_head; (case hw => w_witness2)
  k_fill
  refine K99.walk (l := PySem.Challenge.rw_nochaingains_k99_whole_any_text_of_deeds) rfl rfl (fun w h Y => PySem.W.kIn_of Y) ?F
  case F =>
    intro w mg fa h KX G hmg
    refine' K99.all_mk (w := w) KX G ?a13 ?l13 ?c13 ?k13 ?a14 ?l14 ?c14 ?k14 ?a15 ?l15 ?c15 ?k15 ?a16 ?l16 ?c16 ?k16 ?a17 ?l17 ?c17 ?k17 ?a18 ?l18 ?c18 ?k18 ?a19 ?l19 ?c19 ?k19 ?a20 ?l20 ?c20 ?k20 ?a21 ?l21 ?c21 ?k21 ?a22 ?l22 ?c22 ?k22 ?a25 ?l25 ?c25 ?k25 ?a26 ?l26 ?c26 ?k26 ?a28 ?l28 ?c28 ?k28 ?a29 ?l29 ?c29 ?k29 ?a30 ?l30 ?c30 ?k30 ?a31 ?l31 ?c31 ?k31 ?a32 ?l32 ?c32 ?k32 ?a33 ?l33 ?c33 ?k33 ?a34 ?l34 ?c34 ?k34 ?a35 ?l35 ?c35 ?k35 ?a36 ?l36 ?c36 ?k36 ?a37 ?l37 ?c37 ?k37 ?a38 ?l38 ?c38 ?k38 ?a39 ?l39 ?c39 ?k39 ?a40 ?l40 ?c40 ?k40 ?a41 ?l41 ?c41 ?k41 ?a42 ?l42 ?c42 ?k42 ?a43 ?l43 ?c43 ?k43 ?a44 ?l44 ?c44 ?k44 ?a45 ?l45 ?c45 ?k45 ?a46 ?l46 ?c46 ?k46 ?a47 ?l47 ?c47 ?k47 ?a48 ?l48 ?c48 ?k48 ?a49 ?l49 ?c49 ?k49 ?a50 ?l50 ?c50 ?k50 ?a51 ?l51 ?c51 ?k51 ?a52 ?l52 ?c52 ?k52 ?a53 ?l53 ?c53 ?k53 ?zlen ?zall ?ztuple ?zint ?zstr ?zlist ?zrange ?zenumerate ?zisinstance ?zbool ?zValueError ?gD ?gM ?aN ?lN ?kN ?oN ?aCE ?aBT ?xL ?sa ?ga ?gg ?nl ?eC ?tC ?hC ?kC ?ccl ?cn ?cht ?cm ?iC ?lI ?cI ?kI ?tI ?eS ?eH ?eT ?eB ?ve ?sf ?nInvalidWeb ?hInvalidWeb ?tInvalidWeb ?sInvalidWeb ?nNotSound ?hNotSound ?tNotSound ?sNotSound ?nBadText ?hBadText ?tBadText ?sBadText ?nNoHouse ?hNoHouse ?tNoHouse ?sNoHouse ?nNoContract ?hNoContract ?tNoContract ?sNoContract ?nNoLetter ?hNoLetter ?tNoLetter ?sNoLetter ?nNothingToUndo ?hNothingToUndo ?tNothingToUndo ?sNothingToUndo ?nNothingToRedo ?hNothingToRedo ?tNothingToRedo ?sNothingToRedo hmg
    (case a13 => k_is)
    (case l13 => k_is)
    (case c13 => k_is)
    (case k13 => k_is)
    (case a14 => k_is)
    (case l14 => k_is)
    (case c14 => k_is)
    (case k14 => k_is)
    (case a15 => k_is)
    (case l15 => k_is)
    (case c15 => k_is)
    (case k15 => k_is)
    (case a16 => k_is)
    (case l16 => k_is)
    (case c16 => k_is)
    (case k16 => k_is)
    (case a17 => k_is)
    (case l17 => k_is)
    (case c17 => k_is)
    (case k17 => k_is)
    (case a18 => k_is)
    (case l18 => k_is)
    (case c18 => k_is)
    (case k18 => k_is)
    (case a19 => k_is)
    (case l19 => k_is)
    (case c19 => k_is)
    (case k19 => k_is)
    (case a20 => k_is)
    (case l20 => k_is)
    (case c20 => k_is)
    (case k20 => k_is)
    (case a21 => k_is)
    (case l21 => k_is)
    (case c21 => k_is)
    (case k21 => k_is)
    (case a22 => k_is)
    (case l22 => k_is)
    (case c22 => k_is)
    (case k22 => k_is)
    (case a25 => k_is)
    (case l25 => k_is)
    (case c25 => k_is)
    (case k25 => k_is)
    (case a26 => k_is)
    (case l26 => k_is)
    (case c26 => k_is)
    (case k26 => k_is)
    (case a28 => k_is)
    (case l28 => k_is)
    (case c28 => k_is)
    (case k28 => k_is)
    (case a29 => k_is)
    (case l29 => k_is)
    (case c29 => k_is)
    (case k29 => k_is)
    (case a30 => k_is)
    (case l30 => k_is)
    (case c30 => k_is)
    (case k30 => k_is)
    (case a31 => k_is)
    (case l31 => k_is)
    (case c31 => k_is)
    (case k31 => k_is)
    (case a32 => k_is)
    (case l32 => k_is)
    (case c32 => k_is)
    (case k32 => k_is)
    (case a33 => k_is)
    (case l33 => k_is)
    (case c33 => k_is)
    (case k33 => k_is)
    (case a34 => k_is)
    (case l34 => k_is)
    (case c34 => k_is)
    (case k34 => k_is)
    (case a35 => k_is)
    (case l35 => k_is)
    (case c35 => k_is)
    (case k35 => k_is)
    (case a36 => k_is)
    (case l36 => k_is)
    (case c36 => k_is)
    (case k36 => k_is)
    (case a37 => k_is)
    (case l37 => k_is)
    (case c37 => k_is)
    (case k37 => k_is)
    (case a38 => k_is)
    (case l38 => k_is)
    (case c38 => k_is)
    (case k38 => k_is)
    (case a39 => k_is)
    (case l39 => k_is)
    (case c39 => k_is)
    (case k39 => k_is)
    (case a40 => k_is)
    (case l40 => k_is)
    (case c40 => k_is)
    (case k40 => k_is)
    (case a41 => k_is)
    (case l41 => k_is)
    (case c41 => k_is)
    (case k41 => k_is)
    (case a42 => k_is)
    (case l42 => k_is)
    (case c42 => k_is)
    (case k42 => k_is)
    (case a43 => k_is)
    (case l43 => k_is)
    (case c43 => k_is)
    (case k43 => k_is)
    (case a44 => k_is)
    (case l44 => k_is)
    (case c44 => k_is)
    (case k44 => k_is)
    (case a45 => k_is)
    (case l45 => k_is)
    (case c45 => k_is)
    (case k45 => k_is)
    (case a46 => k_is)
    (case l46 => k_is)
    (case c46 => k_is)
    (case k46 => k_is)
    (case a47 => k_is)
    (case l47 => k_is)
    (case c47 => k_is)
    (case k47 => k_is)
    (case a48 => k_is)
    (case l48 => k_is)
    (case c48 => k_is)
    (case k48 => k_is)
    (case a49 => k_is)
    (case l49 => k_is)
    (case c49 => k_is)
    (case k49 => k_is)
    (case a50 => k_is)
    (case l50 => k_is)
    (case c50 => k_is)
    (case k50 => k_is)
    (case a51 => k_is)
    (case l51 => k_is)
    (case c51 => k_is)
    (case k51 => k_is)
    (case a52 => k_is)
    (case l52 => k_is)
    (case c52 => k_is)
    (case k52 => k_is)
    (case a53 => k_is)
    (case l53 => k_is)
    (case c53 => k_is)
    (case k53 => k_is)
    (case zlen => k_is)
    (case zall => k_is)
    (case ztuple => k_is)
    (case zint => k_is)
    (case zstr => k_is)
    (case zlist => k_is)
    (case zrange => k_is)
    (case zenumerate => k_is)
    (case zisinstance => k_is)
    (case zbool => k_is)
    (case zValueError => k_is)
    (case gD => k_is)
    (case gM => k_is)
    (case aN => k_is)
    (case lN => k_is)
    (case kN => k_keys)
    (case oN => decide)
    (case aCE => k_is)
    (case aBT => k_is)
    (case xL => k_is)
    (case sa => k_is)
    (case ga => k_is)
    (case gg => k_is)
    (case nl => k_is)
    (case eC => k_is)
    (case tC => k_is)
    (case hC => k_is)
    (case kC => k_is)
    (case ccl => k_is)
    (case cn => k_is)
    (case cht => k_is)
    (case cm => k_is)
    (case iC => k_is)
    (case lI => k_is)
    (case cI => k_is)
    (case kI => k_is)
    (case tI => k_is)
    (case eS => k_is)
    (case eH => k_is)
    (case eT => k_is)
    (case eB => k_is)
    (case ve => k_is)
    (case sf => k_is)
    (case nInvalidWeb => k_is)
    (case hInvalidWeb => k_is)
    (case tInvalidWeb => k_is)
    (case sInvalidWeb => k_is)
    (case nNotSound => k_is)
    (case hNotSound => k_is)
    (case tNotSound => k_is)
    (case sNotSound => k_is)
    (case nBadText => k_is)
    (case hBadText => k_is)
    (case tBadText => k_is)
    (case sBadText => k_is)
    (case nNoHouse => k_is)
    (case hNoHouse => k_is)
    (case tNoHouse => k_is)
    (case sNoHouse => k_is)
    (case nNoContract => k_is)
    (case hNoContract => k_is)
    (case tNoContract => k_is)
    (case sNoContract => k_is)
    (case nNoLetter => k_is)
    (case hNoLetter => k_is)
    (case tNoLetter => k_is)
    (case sNoLetter => k_is)
    (case nNothingToUndo => k_is)
    (case hNothingToUndo => k_is)
    (case tNothingToUndo => k_is)
    (case sNothingToUndo => k_is)
    (case nNothingToRedo => k_is)
    (case hNothingToRedo => k_is)
    (case tNothingToRedo => k_is)
    (case sNothingToRedo => k_is)


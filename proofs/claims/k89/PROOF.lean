import PyProof.Rows.All
import Wide.All
import OpenK.AllK
import Wide.FinOn
import HandS.Text
import HandS.Codes
import HandS.ForMost
import HandS.Evl
import HandS.Words
import HandS.Defaults
import HandS.IsInst
import HandS.RaiseMore
import HandS.FStr
import HandS.TupAny
import HandS.Walk
import HandS.More
import HandS.Comp
import HandS.Iter
import PyProof.WalksMore
import PyProof.WalkInts
import HandS.Exc
import HandS.ExcOwn
import HandS.CallSlots
import KE.KSuper
import KE.KExcSuper
import KE.KExcMake
import KE.GoesMore
import KE.GoesEnum
import PyProof.EnumMake
import PyProof.Draws
import HandS.WordsExc
import HandS.FStrTup
import HandS.Ends
import PyProof.ReprRoads
import HandS.Head0
import HandS.Head1
import HandS.Head2
import HandS.HeadHook1
import HandS.HeadHook2
import HandS.HeadHook3
import HandS.HeadEnd
import PySem.Challenge.RW_stillread_k89_whole_texts_of_deeds_and_q
set_option Elab.async false
set_option linter.all false
set_option maxRecDepth 100000
/-! The mirror: what the two readers and the writers compute, on lists of code points. -/
namespace Mi
open PySem

abbrev Tx := List Nat
abbrev S (l : Tx) : Str := SX.S l
def lets : Str := "abcdefghijklmnopqrstuvwxyz"
def figs : Str := "0123456789"

/-! ### words -/
def isNm (w : Tx) : Bool := (decide (1 ≤ w.length) && decide (w.length ≤ 4)) && w.all fun c => decide (c ∈ lets.cps.toList)
def allFig (w : Tx) : Bool := w.all fun c => decide (c ∈ figs.cps.toList)
def val (w : Tx) : Nat := NumText.digitsVal w
def numOk (lim most : Nat) (w : Tx) : Bool := ((!w.isEmpty && decide (w.length ≤ lim)) && allFig w) && (decide (TL.numL (val w) = w) && decide (val w ≤ most))
def num (lim most : Nat) (w : Tx) : Option Nat := if numOk lim most w = true then some (val w) else none
def somes : List (Option Nat) → Option (List Nat)
  | [] => some []
  | none :: _ => none
  | some x :: r => (somes r).map (x :: ·)
def cells (w : Tx) : Option (List Nat) := if w = [45] then some [] else somes ((TL.spl [44] 0 [] w).map (num 5 996))
def save (w : Tx) : Option (Nat × Nat) := match (TL.spl [46] 0 [] w).map (num 5 996) with
  | [some a, some b] => if 1 ≤ a ∧ 1 ≤ b then some (a, b) else none
  | _ => none
def dI (n : Nat) : PyData := .int (n : Int)
def dS (w : Tx) : PyData := .str (S w)
def dC (cs : List Nat) : PyData := .tuple (cs.map dI)
/-- the forms: 0 a name, 1 a save, 2 cells, 3 a place, 4 at -/
def part (f : Nat) (w : Tx) : Option PyData :=
  if f = 0 then (if isNm w = true then some (dS w) else none)
  else if f = 1 then (save w).map fun p => .tuple [dI p.1, dI p.2]
  else if f = 2 then (cells w).bind fun cs => if cs.length ≤ 48 then some (dC cs) else none
  else (num 5 (if f = 3 then 996 else 995) w).map dI

abbrev wPut : Tx := [112, 117, 116]
abbrev wPatch : Tx := [112, 97, 116, 99, 104]
abbrev wDrop : Tx := [100, 114, 111, 112]
abbrev wRename : Tx := [114, 101, 110, 97, 109, 101]
abbrev wThere : Tx := [116, 104, 101, 114, 101]
abbrev wLength : Tx := [108, 101, 110, 103, 116, 104]
abbrev wCell : Tx := [99, 101, 108, 108]
def forms (deed : Bool) (w : Tx) : Option (List Nat) :=
  if deed = true then
    (if w = wPut then some [0, 2] else if w = wPatch then some [0, 3, 3, 2] else if w = wDrop then some [0] else if w = wRename then some [0, 0] else none)
  else (if w = wThere then some [1, 0] else if w = wLength then some [1, 0] else if w = wCell then some [1, 0, 4] else none)
/-- the parts one behind another; ds: what is found so far, the first word too -/
def go (ren : Bool) : List Nat → List Tx → List PyData → Except Nat (List PyData)
  | [], [], ds => .ok ds
  | [], _ :: _, ds => .error ds.length
  | _ :: _, [], ds => .error ds.length
  | f :: fs, w :: ws, ds => match part f w with
    | none => .error ds.length
    | some d => if (ren && (ds.drop 1).any fun z => PyData.eqv z d) = true then .error ds.length else go ren fs ws (ds ++ [d])
def told (deed : Bool) (ws : List Tx) : Except Nat (List PyData) := match forms deed (ws.headD []) with
  | none => .error 0
  | some fs => go (decide (ws.headD [] = wRename)) fs ws.tail [dS (ws.headD [])]
def read (deed : Bool) (t : Tx) : Except Nat (List PyData) :=
  if [] ∈ (TL.spl [32] 0 [] t).tail then .error 0 else told deed (TL.spl [32] 0 [] t)
def out : Except Nat (List PyData) → PyData
  | .ok ds => .tuple [dS [116, 111, 108, 100], .tuple ds]
  | .error n => .tuple [dS [115, 112, 111, 116], dI n]

/-! ### what is written -/
def cellsW (cs : List Nat) : Tx := if cs = [] then [45] else TL.joinL [44] (cs.map TL.numL)
def saveW (a b : Nat) : Tx := TL.numL a ++ (46 :: TL.numL b)
inductive Dd where
  | put (n : Tx) (cs : List Nat)
  | patch (n : Tx) (a b : Nat) (cs : List Nat)
  | drop (n : Tx)
  | rename (n m : Tx)
inductive Qn where
  | there (a b : Nat) (n : Tx)
  | length (a b : Nat) (n : Tx)
  | cell (a b : Nat) (n : Tx) (at_ : Nat)
def Dd.py : Dd → List PyData
  | .put n cs => [dS wPut, dS n, dC cs]
  | .patch n a b cs => [dS wPatch, dS n, dI a, dI b, dC cs]
  | .drop n => [dS wDrop, dS n]
  | .rename n m => [dS wRename, dS n, dS m]
def Dd.words : Dd → List Tx
  | .put n cs => [wPut, n, cellsW cs]
  | .patch n a b cs => [wPatch, n, TL.numL a, TL.numL b, cellsW cs]
  | .drop n => [wDrop, n]
  | .rename n m => [wRename, n, m]
def cellsOk (cs : List Nat) : Prop := cs.length ≤ 48 ∧ ∀ c ∈ cs, c ≤ 996
def Dd.ok : Dd → Prop
  | .put n cs => isNm n = true ∧ cellsOk cs
  | .patch n a b cs => isNm n = true ∧ a ≤ 996 ∧ b ≤ 996 ∧ cellsOk cs
  | .drop n => isNm n = true
  | .rename n m => isNm n = true ∧ isNm m = true ∧ n ≠ m
def Dd.text (d : Dd) : Tx := TL.joinL [32] d.words
def Qn.py : Qn → List PyData
  | .there a b n => [dS wThere, .tuple [dI a, dI b], dS n]
  | .length a b n => [dS wLength, .tuple [dI a, dI b], dS n]
  | .cell a b n t => [dS wCell, .tuple [dI a, dI b], dS n, dI t]
def Qn.words : Qn → List Tx
  | .there a b n => [wThere, saveW a b, n]
  | .length a b n => [wLength, saveW a b, n]
  | .cell a b n t => [wCell, saveW a b, n, TL.numL t]
def saveOk (a b : Nat) : Prop := (1 ≤ a ∧ a ≤ 996) ∧ 1 ≤ b ∧ b ≤ 996
def Qn.ok : Qn → Prop
  | .there a b n => saveOk a b ∧ isNm n = true
  | .length a b n => saveOk a b ∧ isNm n = true
  | .cell a b n t => saveOk a b ∧ isNm n = true ∧ t ≤ 995
def Qn.text (q : Qn) : Tx := TL.joinL [32] q.words

/-! ### the mathematics -/
theorem figs_mem (c : Nat) : (c ∈ figs.cps.toList) ↔ (48 ≤ c ∧ c ≤ 57) := by
  have e : figs.cps.toList = [48, 49, 50, 51, 52, 53, 54, 55, 56, 57] := by decide +kernel
  rw [e]
  simp only [List.mem_cons, List.not_mem_nil, or_false]
  omega
theorem lets_mem {c : Nat} (h : c ∈ lets.cps.toList) : 97 ≤ c ∧ c ≤ 122 := by
  have e : lets.cps.toList = [97, 98, 99, 100, 101, 102, 103, 104, 105, 106, 107, 108, 109, 110, 111, 112, 113, 114, 115, 116, 117, 118, 119, 120, 121, 122] := by decide +kernel
  rw [e] at h
  simp only [List.mem_cons, List.not_mem_nil, or_false] at h
  omega
theorem allFig_iff (w : Tx) : allFig w = true ↔ NumText.AllDigits w := by
  unfold allFig NumText.AllDigits
  rw [List.all_eq_true]
  exact ⟨fun h c hc => (figs_mem c).mp (of_decide_eq_true (h c hc)), fun h c hc => decide_eq_true ((figs_mem c).mpr (h c hc))⟩
theorem numL_short {n : Nat} (h : n ≤ 996) : (TL.numL n).length ≤ 3 := TL.numL_len (by decide) (Nat.lt_of_le_of_lt h (by decide))
/-- the two limits tell the same numbers -/
theorem numOk_lim {l m most : Nat} (hl : 3 ≤ l) (hm : 3 ≤ m) (h : most ≤ 996) (w : Tx) : numOk l most w = numOk m most w := by
  unfold numOk
  by_cases hv : (decide (TL.numL (val w) = w) && decide (val w ≤ most)) = true
  · obtain ⟨h1, h2⟩ := Bool.and_eq_true_iff.mp hv
    have e := numL_short (Nat.le_trans (of_decide_eq_true h2) h)
    rw [of_decide_eq_true h1] at e
    rw [decide_eq_true (Nat.le_trans e hl), decide_eq_true (Nat.le_trans e hm)]
  · rw [(Bool.not_eq_true _).mp hv, Bool.and_false, Bool.and_false]
theorem num_lim {l m most : Nat} (hl : 3 ≤ l) (hm : 3 ≤ m) (h : most ≤ 996) (w : Tx) : num l most w = num m most w := by
  unfold num
  rw [numOk_lim hl hm h]
theorem num_le {l most n : Nat} {w : Tx} (h : num l most w = some n) : n ≤ most := by
  unfold num at h
  by_cases c : numOk l most w = true
  · rw [if_pos c] at h
    have e := Option.some.inj h
    subst e
    exact of_decide_eq_true (Bool.and_eq_true_iff.mp (Bool.and_eq_true_iff.mp c).2).2
  · rw [if_neg c] at h
    cases h
theorem num_of {l most n : Nat} (hl : 3 ≤ l) (hm : most ≤ 996) (h : n ≤ most) : num l most (TL.numL n) = some n := by
  have hv : val (TL.numL n) = n := TL.numL_val n
  have c : numOk l most (TL.numL n) = true := by
    unfold numOk
    have h1 : (TL.numL n).isEmpty = false := by
      cases e : TL.numL n with
      | nil => exact absurd e (TL.numL_ne n)
      | cons _ _ => rfl
    have h2 := numL_short (Nat.le_trans h hm)
    rw [h1, decide_eq_true (Nat.le_trans h2 hl), (allFig_iff _).mpr (TL.numL_digits n), hv, decide_eq_true rfl, decide_eq_true h] <;> rfl
  unfold num
  rw [if_pos c, hv]
theorem somes_map {cs : List Nat} {f : Tx → Option Nat} (h : ∀ c ∈ cs, f (TL.numL c) = some c) : somes ((cs.map TL.numL).map f) = some cs := by
  induction cs with
  | nil => rfl
  | cons c r ih =>
    rw [List.map_cons, List.map_cons, h c List.mem_cons_self]
    show (somes ((r.map TL.numL).map f)).map (c :: ·) = _
    rw [ih fun z hz => h z (List.mem_cons_of_mem _ hz)]
    rfl
theorem joinL_head {S p : Tx} {r : List Tx} (h : p ≠ []) : ∃ c l, p = c :: l ∧ ∃ m, TL.joinL S (p :: r) = c :: m := by
  cases p with
  | nil => exact absurd rfl h
  | cons c l =>
    refine ⟨c, l, rfl, ?_⟩
    cases r with
    | nil => exact ⟨l, rfl⟩
    | cons q r => exact ⟨_, rfl⟩
theorem cells_of {cs : List Nat} (h : ∀ c ∈ cs, c ≤ 996) : cells (cellsW cs) = some cs := by
  unfold cellsW
  by_cases e : cs = []
  · subst e
    rfl
  · rw [if_neg e]
    unfold cells
    obtain ⟨c, r, rfl⟩ : ∃ c r, cs = c :: r := by
      cases cs with
      | nil => exact absurd rfl e
      | cons c r => exact ⟨c, r, rfl⟩
    have ne : TL.joinL [44] ((c :: r).map TL.numL) ≠ [45] := by
      rw [List.map_cons]
      obtain ⟨k, l, e1, m, e2⟩ := joinL_head (S := [44]) (r := r.map TL.numL) (TL.numL_ne c)
      rw [e2]
      intro z
      have hk := TL.numL_digits c k (by rw [e1]; exact List.mem_cons_self)
      have : k = 45 := (List.cons.inj z).1
      omega
    rw [if_neg ne, TL.spl_join (by simp) (fun p hp => by
      obtain ⟨n, _, rfl⟩ := List.mem_map.mp hp
      exact TL.numL_free (.inl (by decide)))]
    exact somes_map fun z hz => num_of (by decide) (by decide) (h z hz)
theorem save_of {a b : Nat} (h : saveOk a b) : save (saveW a b) = some (a, b) := by
  obtain ⟨⟨a1, a2⟩, b1, b2⟩ := h
  have e : TL.spl [46] 0 [] (saveW a b) = [TL.numL a, TL.numL b] := by
    have j : saveW a b = TL.joinL [46] [TL.numL a, TL.numL b] := rfl
    rw [j]
    refine TL.spl_join (by simp) fun p hp => ?_
    simp only [List.mem_cons, List.not_mem_nil, or_false] at hp
    rcases hp with rfl | rfl
    · exact TL.numL_free (.inl (by decide))
    · exact TL.numL_free (.inl (by decide))
  unfold save
  rw [e]
  show (match [num 5 996 (TL.numL a), num 5 996 (TL.numL b)] with | [some a, some b] => if 1 ≤ a ∧ 1 ≤ b then some (a, b) else none | _ => none) = _
  rw [num_of (by decide) (by decide) a2, num_of (by decide) (by decide) b2]
  exact if_pos ⟨a1, b1⟩
theorem nm_ne {n : Tx} (h : isNm n = true) : n ≠ [] := by
  intro e
  subst e
  cases h
theorem nm_free {n : Tx} {s : Nat} (h : isNm n = true) (hs : s < 97) : s ∉ n := fun hm => by
  have q := List.all_eq_true.mp (Bool.and_eq_true_iff.mp h).2 s hm
  have := lets_mem (of_decide_eq_true q)
  omega
theorem cellsW_ne (cs : List Nat) : cellsW cs ≠ [] := by
  unfold cellsW
  by_cases e : cs = []
  · rw [if_pos e]; simp
  · rw [if_neg e]
    cases cs with
    | nil => exact absurd rfl e
    | cons c r =>
      rw [List.map_cons]
      obtain ⟨k, l, e1, m, e2⟩ := joinL_head (S := [44]) (r := r.map TL.numL) (TL.numL_ne c)
      rw [e2]; simp
theorem joinL_free {s : Nat} {S : Tx} (h0 : s ∉ S) : ∀ {ps : List Tx}, (∀ p ∈ ps, s ∉ p) → s ∉ TL.joinL S ps
  | [], _ => by intro h; cases h
  | [p], h => h p List.mem_cons_self
  | p :: q :: r, h => by
    show s ∉ p ++ (S ++ TL.joinL S (q :: r))
    intro hm
    rcases List.mem_append.mp hm with hm | hm
    · exact h p List.mem_cons_self hm
    · rcases List.mem_append.mp hm with hm | hm
      · exact h0 hm
      · exact joinL_free h0 (fun z hz => h z (List.mem_cons_of_mem _ hz)) hm
theorem cellsW_free {cs : List Nat} : 32 ∉ cellsW cs := by
  unfold cellsW
  by_cases e : cs = []
  · rw [if_pos e]; decide
  · rw [if_neg e]
    refine joinL_free (by decide) fun p hp => ?_
    obtain ⟨n, _, rfl⟩ := List.mem_map.mp hp
    exact TL.numL_free (.inl (by decide))
theorem saveW_free {a b : Nat} : 32 ∉ saveW a b := by
  unfold saveW
  intro hm
  rcases List.mem_append.mp hm with hm | hm
  · exact TL.numL_free (.inl (by decide)) hm
  · rcases List.mem_cons.mp hm with hm | hm
    · cases hm
    · exact TL.numL_free (.inl (by decide)) hm
theorem saveW_ne (a b : Nat) : saveW a b ≠ [] := by
  unfold saveW
  intro h
  exact TL.numL_ne a (List.append_eq_nil_iff.mp h).1
theorem spl_words {ws : List Tx} (h0 : ws ≠ []) (h : ∀ p ∈ ws, 32 ∉ p) : TL.spl [32] 0 [] (TL.joinL [32] ws) = ws := TL.spl_join h0 h
theorem part0 {n : Tx} (h : isNm n = true) : part 0 n = some (dS n) := by
  unfold part
  rw [if_pos rfl, if_pos h]
theorem part1 {a b : Nat} (h : saveOk a b) : part 1 (saveW a b) = some (.tuple [dI a, dI b]) := by
  unfold part
  rw [if_neg (by decide), if_pos rfl, save_of h]
  rfl
theorem part2 {cs : List Nat} (h : cellsOk cs) : part 2 (cellsW cs) = some (dC cs) := by
  unfold part
  rw [if_neg (by decide), if_neg (by decide), if_pos rfl, cells_of h.2]
  exact if_pos h.1
theorem part3 {n : Nat} (h : n ≤ 996) : part 3 (TL.numL n) = some (dI n) := by
  unfold part
  rw [if_neg (by decide), if_neg (by decide), if_neg (by decide), if_pos rfl, num_of (by decide) (by decide) h]
  rfl
theorem part4 {n : Nat} (h : n ≤ 995) : part 4 (TL.numL n) = some (dI n) := by
  unfold part
  rw [if_neg (by decide), if_neg (by decide), if_neg (by decide), if_neg (by decide), num_of (by decide) (by decide) h]
  rfl
theorem go_step {ren : Bool} {f : Nat} {fs : List Nat} {w : Tx} {ws : List Tx} {ds : List PyData} {d : PyData} (h : part f w = some d) (hr : (ren && (ds.drop 1).any fun z => PyData.eqv z d) = false) :
    go ren (f :: fs) (w :: ws) ds = go ren fs ws (ds ++ [d]) := by
  show (match part f w with
    | none => Except.error ds.length
    | some d => if (ren && (ds.drop 1).any fun z => PyData.eqv z d) = true then Except.error ds.length else go ren fs ws (ds ++ [d])) = _
  rw [h]
  exact if_neg (by rw [hr]; decide)
theorem dS_eqv (a b : Tx) : PyData.eqv (dS a) (dS b) = decide (a = b) := by
  show (S a == S b) = _
  exact SX.S_beq_eq
/-- the read-back of a deed -/
theorem read_deed {d : Dd} (h : d.ok) : read true d.text = .ok d.py := by
  have nb : ∀ {ws : List Tx}, ws ≠ [] → (∀ p ∈ ws, 32 ∉ p) → (∀ p ∈ ws, p ≠ []) → read true (TL.joinL [32] ws) = told true ws := fun {ws} h0 h1 h2 => by
    unfold read
    rw [spl_words h0 h1]
    exact if_neg fun hm => h2 [] (List.mem_of_mem_tail hm) rfl
  cases d with
  | put n cs =>
    obtain ⟨h1, h2⟩ := h
    show read true (TL.joinL [32] [wPut, n, cellsW cs]) = _
    rw [nb (by simp) (by
      intro p hp
      simp only [List.mem_cons, List.not_mem_nil, or_false] at hp
      rcases hp with rfl | rfl | rfl
      · decide
      · exact nm_free h1 (by decide)
      · exact cellsW_free) (by
      intro p hp
      simp only [List.mem_cons, List.not_mem_nil, or_false] at hp
      rcases hp with rfl | rfl | rfl
      · simp
      · exact nm_ne h1
      · exact cellsW_ne _)]
    show go (decide (wPut = wRename)) [0, 2] [n, cellsW cs] [dS wPut] = _
    rw [go_step (part0 h1) rfl, go_step (part2 h2) rfl]
    rfl
  | patch n a b cs =>
    obtain ⟨h1, h2, h3, h4⟩ := h
    show read true (TL.joinL [32] [wPatch, n, TL.numL a, TL.numL b, cellsW cs]) = _
    rw [nb (by simp) (by
      intro p hp
      simp only [List.mem_cons, List.not_mem_nil, or_false] at hp
      rcases hp with rfl | rfl | rfl | rfl | rfl
      · decide
      · exact nm_free h1 (by decide)
      · exact TL.numL_free (.inl (by decide))
      · exact TL.numL_free (.inl (by decide))
      · exact cellsW_free) (by
      intro p hp
      simp only [List.mem_cons, List.not_mem_nil, or_false] at hp
      rcases hp with rfl | rfl | rfl | rfl | rfl
      · simp
      · exact nm_ne h1
      · exact TL.numL_ne _
      · exact TL.numL_ne _
      · exact cellsW_ne _)]
    show go (decide (wPatch = wRename)) [0, 3, 3, 2] [n, TL.numL a, TL.numL b, cellsW cs] [dS wPatch] = _
    rw [go_step (part0 h1) rfl, go_step (part3 h2) rfl, go_step (part3 h3) rfl, go_step (part2 h4) rfl]
    rfl
  | drop n =>
    have h1 : isNm n = true := h
    show read true (TL.joinL [32] [wDrop, n]) = _
    rw [nb (by simp) (by
      intro p hp
      simp only [List.mem_cons, List.not_mem_nil, or_false] at hp
      rcases hp with rfl | rfl
      · decide
      · exact nm_free h1 (by decide)) (by
      intro p hp
      simp only [List.mem_cons, List.not_mem_nil, or_false] at hp
      rcases hp with rfl | rfl
      · simp
      · exact nm_ne h1)]
    show go (decide (wDrop = wRename)) [0] [n] [dS wDrop] = _
    rw [go_step (part0 h1) rfl]
    rfl
  | rename n m =>
    obtain ⟨h1, h2, h3⟩ := h
    show read true (TL.joinL [32] [wRename, n, m]) = _
    rw [nb (by simp) (by
      intro p hp
      simp only [List.mem_cons, List.not_mem_nil, or_false] at hp
      rcases hp with rfl | rfl | rfl
      · decide
      · exact nm_free h1 (by decide)
      · exact nm_free h2 (by decide)) (by
      intro p hp
      simp only [List.mem_cons, List.not_mem_nil, or_false] at hp
      rcases hp with rfl | rfl | rfl
      · simp
      · exact nm_ne h1
      · exact nm_ne h2)]
    show go (decide (wRename = wRename)) [0, 0] [n, m] [dS wRename] = _
    rw [go_step (part0 h1) rfl, go_step (part0 h2) ?_]
    · rfl
    · show (true && (PyData.eqv (dS n) (dS m) || false)) = false
      rw [dS_eqv, decide_eq_false h3] <;> rfl
/-- the read-back of a question -/
theorem read_question {q : Qn} (h : q.ok) : read false q.text = .ok q.py := by
  have nb : ∀ {ws : List Tx}, ws ≠ [] → (∀ p ∈ ws, 32 ∉ p) → (∀ p ∈ ws, p ≠ []) → read false (TL.joinL [32] ws) = told false ws := fun {ws} h0 h1 h2 => by
    unfold read
    rw [spl_words h0 h1]
    exact if_neg fun hm => h2 [] (List.mem_of_mem_tail hm) rfl
  have two : ∀ {w : Tx} {a b : Nat} {n : Tx}, saveOk a b → isNm n = true → 32 ∉ w → w ≠ [] → read false (TL.joinL [32] [w, saveW a b, n]) = told false [w, saveW a b, n] := fun {w a b n} hs hn hw h0 => by
    refine nb (by simp) ?_ ?_
    · intro p hp
      simp only [List.mem_cons, List.not_mem_nil, or_false] at hp
      rcases hp with rfl | rfl | rfl
      · exact hw
      · exact saveW_free
      · exact nm_free hn (by decide)
    · intro p hp
      simp only [List.mem_cons, List.not_mem_nil, or_false] at hp
      rcases hp with rfl | rfl | rfl
      · exact h0
      · exact saveW_ne _ _
      · exact nm_ne hn
  cases q with
  | there a b n =>
    obtain ⟨h1, h2⟩ := h
    show read false (TL.joinL [32] [wThere, saveW a b, n]) = _
    rw [two h1 h2 (by decide) (by simp)]
    show go (decide (wThere = wRename)) [1, 0] [saveW a b, n] [dS wThere] = _
    rw [go_step (part1 h1) rfl, go_step (part0 h2) rfl]
    rfl
  | length a b n =>
    obtain ⟨h1, h2⟩ := h
    show read false (TL.joinL [32] [wLength, saveW a b, n]) = _
    rw [two h1 h2 (by decide) (by simp)]
    show go (decide (wLength = wRename)) [1, 0] [saveW a b, n] [dS wLength] = _
    rw [go_step (part1 h1) rfl, go_step (part0 h2) rfl]
    rfl
  | cell a b n t =>
    obtain ⟨h1, h2, h3⟩ := h
    show read false (TL.joinL [32] [wCell, saveW a b, n, TL.numL t]) = _
    rw [nb (by simp) (by
      intro p hp
      simp only [List.mem_cons, List.not_mem_nil, or_false] at hp
      rcases hp with rfl | rfl | rfl | rfl
      · decide
      · exact saveW_free
      · exact nm_free h2 (by decide)
      · exact TL.numL_free (.inl (by decide))) (by
      intro p hp
      simp only [List.mem_cons, List.not_mem_nil, or_false] at hp
      rcases hp with rfl | rfl | rfl | rfl
      · simp
      · exact saveW_ne _ _
      · exact nm_ne h2
      · exact TL.numL_ne _)]
    show go (decide (wCell = wRename)) [1, 0, 4] [saveW a b, n, TL.numL t] [dS wCell] = _
    rw [go_step (part1 h1) rfl, go_step (part0 h2) rfl, go_step (part4 h3) rfl]
    rfl
end Mi
set_option Elab.async false
set_option linter.all false
set_option maxRecDepth 100000
set_option maxHeartbeats 2000000
/-! Words of our own over the hand layer: data of tuples on the heap, what evaluates to data, comprehensions over texts, lists, tuples; a def as one callable. -/
namespace K9
open PySem PySem.Spec PyProof.Rows L2 Evl

def top (i : Nat) : Stmt := PySem.Challenge.pw_stillread_k89_whole_texts_of_deeds_and_q.main.body.getD i (.Pass ⟨0, 0, 0, 0⟩)

/-! ### a def as one callable -/
section
variable {P : Program} {w : World} {K : PySem.W.Frag} {mg : Str → Option Value} {base : Heap}
/-- a def of the module as it stands behind the top -/
structure DefOk (K : PySem.W.Frag) (mg : Str → Option Value) (x : Str) (st : Stmt) : Prop where
  ex : ∃ f fd, FunD K x x (defArgs st) (defBody st) (defScope st) [] [] f fd ∧ mg x = some (.ref f)
theorem cal_of {x : Str} {st : Stmt} {N ps : List Str} {k : Nat} {sp : Sp} (D : DefOk K mg x st) (S : FnScope N ps (defScope st))
    (bnd : ∀ (kV doc pm : Value) (an : Option Addr) (cdv ct : Value) (us : List Value), us.length = ps.length → bindArgs (PySem.W.fnOf x x (defArgs st) (defBody st) (defScope st) .none kV doc pm an cdv ct) ⟨us, []⟩ = pure (ps.zip us))
    (len : ∀ vs H Q E, sp vs H Q E → vs.length = ps.length)
    (hbody : ∀ (f : Addr) (cdv : Value) (A : Around) (outer : List Env) (s : Shared) (H : Hp) (vs : List V) (Q : VK) (E : XK), Room k (A.deeper (envOfC x (defScope st) s.heap.objs.size f cdv)) → sp vs H Q E →
      ∃ t, PSs (cxOf C8.CX0 P w K mg base N x (defScope st) f cdv A outer s H E).nox (defBody st) t ∧ t { nx := fun _ H' => Q .non H', rt := Q } (start N vs) H) : C8.Cal P w K mg base (k + 1) x sp [] := by
  obtain ⟨f, fd, F, hm⟩ := D.ex
  refine ⟨f, fd, ps, [], F.ok S len fun cdv A outer s H vs Q E hr hsp => ?_, hm, F.kp, F.bindsN bnd, .nil⟩
  obtain ⟨t, h, q⟩ := hbody f cdv A outer s H vs Q E hr hsp
  exact ⟨t, h.nox, q⟩
end

/-! ### data made of tuples -/
mutual
inductive Dt (K : PySem.W.Frag) (H : Hp) : V → PyData → Prop
  | non : Dt K H .non .none
  | bl (b : Bool) : Dt K H (.bl b) (.bool b)
  | int (i : Int) : Dt K H (.int i) (.int i)
  | str (x : Str) : Dt K H (.str x) (.str x)
  | tup {a : Addr} {xs : List V} {ds : List PyData} : SqT K H a xs → DtAll K H xs ds → Dt K H (.ref a) (.tuple ds)
inductive DtAll (K : PySem.W.Frag) (H : Hp) : List V → List PyData → Prop
  | nil : DtAll K H [] []
  | cons {v : V} {vs : List V} {d : PyData} {ds : List PyData} : Dt K H v d → DtAll K H vs ds → DtAll K H (v :: vs) (d :: ds)
end
section
variable {K : PySem.W.Frag} {H H' : Hp}
/-- the tuples stay -/
def Tm (K : PySem.W.Frag) (H H' : Hp) : Prop := ∀ a xs, SqT K H a xs → SqT K H' a xs
mutual
theorem Dt.up (t : Tm K H H') : ∀ (d : PyData) (v : V), Dt K H v d → Dt K H' v d
  | .none, _, h => by cases h; exact .non
  | .bool b, _, h => by cases h; exact .bl b
  | .int i, _, h => by cases h; exact .int i
  | .str x, _, h => by cases h; exact .str x
  | .list _, _, h => by cases h
  | .tuple ds, _, h => by
    cases h with
    | tup hs ha => exact .tup (t _ _ hs) (Dt.upA t ds _ ha)
  | .dict _, _, h => by cases h
theorem Dt.upA (t : Tm K H H') : ∀ (ds : List PyData) (vs : List V), DtAll K H vs ds → DtAll K H' vs ds
  | [], _, h => by cases h; exact .nil
  | d :: ds, _, h => by
    cases h with
    | cons h1 h2 => exact .cons (Dt.up t d _ h1) (Dt.upA t ds _ h2)
end
mutual
theorem Dt.dp : ∀ (d : PyData) (v : V), Dt K H v d → Dp K H v d
  | .none, _, h => by cases h; exact .non
  | .bool b, _, h => by cases h; exact .bl b
  | .int i, _, h => by cases h; exact .int i
  | .str x, _, h => by cases h; exact .str x
  | .list _, _, h => by cases h
  | .tuple ds, _, h => by
    cases h with
    | tup hs ha => exact .tup hs (Dt.dpA ds _ ha)
  | .dict _, _, h => by cases h
theorem Dt.dpA : ∀ (ds : List PyData) (vs : List V), DtAll K H vs ds → DpAll K H vs ds
  | [], _, h => by cases h; exact .nil
  | d :: ds, _, h => by
    cases h with
    | cons h1 h2 => exact .cons (Dt.dp d _ h1) (Dt.dpA ds _ h2)
end
theorem Tm.of_ex (e : Ex H H') : Tm K H H' := fun _ _ h => ex_t e h
theorem Tm.refl (H : Hp) : Tm K H H := fun _ _ h => h
theorem Tm.trans {H1 H2 : Hp} (a : Tm K H H1) (b : Tm K H1 H2) : Tm K H H2 := fun x o h => b x o (a x o h)
/-- a list is changed -/
theorem Tm.put {l : Addr} {xs ys : List V} (h : H l = some (.lst xs)) : Tm K H (upd H l (.lst ys)) := fun a zs q => by
  rcases q with (q | ⟨o, q⟩) | q
  · exact .inl (.inl (by rw [upd_ne (ne_of q h fun z => by cases z)]; exact q))
  · exact .inl (.inr ⟨o, by rw [upd_ne (ne_of q h fun z => by cases z)]; exact q⟩)
  · exact .inr q
theorem Dt.ex {d : PyData} {v : V} (h : Dt K H v d) (e : Ex H H') : Dt K H' v d := h.up (Tm.of_ex e)
theorem DtAll.ex {ds : List PyData} {vs : List V} (h : DtAll K H vs ds) (e : Ex H H') : DtAll K H' vs ds := Dt.upA (Tm.of_ex e) ds vs h
theorem DtAll.up {ds : List PyData} {vs : List V} (h : DtAll K H vs ds) (t : Tm K H H') : DtAll K H' vs ds := Dt.upA t ds vs h
theorem Dt.int_inv {i : Int} {v : V} (h : Dt K H v (.int i)) : v = .int i := by cases h; rfl
theorem Dt.str_inv {x : Str} {v : V} (h : Dt K H v (.str x)) : v = .str x := by cases h; rfl
theorem Dt.non_inv {v : V} (h : Dt K H v .none) : v = .non := by cases h; rfl
theorem Dt.bl_inv {b : Bool} {v : V} (h : Dt K H v (.bool b)) : v = .bl b := by cases h; rfl
theorem Dt.tup_inv {ds : List PyData} {v : V} (h : Dt K H v (.tuple ds)) : ∃ a xs, v = .ref a ∧ SqT K H a xs ∧ DtAll K H xs ds := by
  cases h with
  | tup hs ha => exact ⟨_, _, rfl, hs, ha⟩
theorem DtAll.length : ∀ {ds : List PyData} {vs : List V}, DtAll K H vs ds → vs.length = ds.length
  | [], _, h => by cases h; rfl
  | d :: ds, _, h => by
    cases h with
    | cons h1 h2 => exact congrArg Nat.succ (DtAll.length h2)
theorem DtAll.get : ∀ {ds : List PyData} {vs : List V} {i : Nat} {d : PyData}, DtAll K H vs ds → ds[i]? = some d → ∃ v, vs[i]? = some v ∧ Dt K H v d
  | [], _, i, d, h, e => by simp at e
  | c :: ds, _, 0, d, h, e => by
    cases h with
    | cons h1 h2 =>
      have q : c = d := by simpa using e
      subst q
      exact ⟨_, rfl, h1⟩
  | c :: ds, _, i + 1, d, h, e => by
    cases h with
    | cons h1 h2 =>
      obtain ⟨v, q1, q2⟩ := DtAll.get (i := i) h2 (by simpa using e)
      exact ⟨v, by simpa using q1, q2⟩
theorem DtAll.snoc : ∀ {ds : List PyData} {vs : List V} {d : PyData} {v : V}, DtAll K H vs ds → Dt K H v d → DtAll K H (vs ++ [v]) (ds ++ [d])
  | [], _, _, _, h, q => by cases h; exact .cons q .nil
  | c :: ds, _, _, _, h, q => by
    cases h with
    | cons h1 h2 => exact .cons h1 (DtAll.snoc h2 q)
theorem DtAll.drop : ∀ {ds : List PyData} {vs : List V} (n : Nat), DtAll K H vs ds → DtAll K H (vs.drop n) (ds.drop n)
  | _, _, 0, h => h
  | [], _, n + 1, h => by cases h; exact .nil
  | c :: ds, _, n + 1, h => by
    cases h with
    | cons h1 h2 => exact DtAll.drop n h2
theorem DtAll.take : ∀ {ds : List PyData} {vs : List V} (n : Nat), DtAll K H vs ds → DtAll K H (vs.take n) (ds.take n)
  | _, _, 0, h => .nil
  | [], _, n + 1, h => by cases h; exact .nil
  | c :: ds, _, n + 1, h => by
    cases h with
    | cons h1 h2 => exact .cons h1 (DtAll.take n h2)
/-- ints -/
def vI (n : Nat) : V := .int (n : Int)
theorem dtAll_ints : ∀ (cs : List Nat), DtAll K H (cs.map vI) (cs.map Mi.dI)
  | [] => .nil
  | c :: cs => .cons (.int _) (dtAll_ints cs)
theorem DtAll.ints_inv : ∀ {cs : List Nat} {vs : List V}, DtAll K H vs (cs.map Mi.dI) → vs = cs.map vI
  | [], _, h => by cases h; rfl
  | c :: cs, _, h => by
    cases h with
    | cons h1 h2 =>
      rw [Dt.int_inv h1, DtAll.ints_inv h2] <;> rfl
theorem Dt.cells_inv {cs : List Nat} {v : V} (h : Dt K H v (Mi.dC cs)) : ∃ a, v = .ref a ∧ SqT K H a (cs.map vI) := by
  obtain ⟨a, xs, e, q, r⟩ := Dt.tup_inv h
  rw [DtAll.ints_inv r] at q
  exact ⟨a, e, q⟩
theorem dt_cells {cs : List Nat} {a : Addr} (h : SqT K H a (cs.map vI)) : Dt K H (.ref a) (Mi.dC cs) := .tup h (dtAll_ints cs)
/-- an int or None -/
def oV : Option Nat → V
  | none => .non
  | some n => vI n
def oD : Option PyData → PyData
  | none => .none
  | some d => d
end

/-! ### what evaluates to data -/
def ED (K : PySem.W.Frag) (te : TE) (σ : L2.St) (H : Hp) (d : PyData) : Prop := ∀ H1, Ex H H1 → ∀ Q : VK, (∀ x H2, Ex H1 H2 → Dt K H2 x d → Q x H2) → te σ H1 Q
section
variable {K : PySem.W.Frag} {σ : L2.St} {H H' : Hp} {ta tb te tx : TE} {t u : TT} {x y z v : V} {d : PyData} {D : Ends} {tu tw tz : TS}
theorem ED.mono (e : Ex H H') (h : ED K te σ H d) : ED K te σ H' d := fun H1 a Q q => h H1 (e.trans a) Q q
theorem ed_of (h : Ev te σ H v) (hd : Dt K H v d) : ED K te σ H d := fun H1 e Q q => h H1 e Q fun H2 e2 => q v H2 e2 (hd.ex (e.trans e2))
theorem ev_ed (h : ED K te σ H d) (hv : ∀ x H2, Dt K H2 x d → x = v) : Ev te σ H v := fun H1 e Q q => h H1 e Q fun x H2 e2 hx => by
  rw [hv x H2 hx]
  exact q H2 e2
theorem ed_var {i : Nat} (h : σ[i]? = some (some v)) (hd : Dt K H v d) : ED K (tVar i) σ H d := ed_of (ev_var h) hd
theorem ed_if {b : Bool} (h : EvT t σ H b) (h1 : b = true → ED K ta σ H d) (h2 : b = false → ED K tb σ H d) : ED K (tIf t ta tb) σ H d := fun H1 e Q q => h H1 e _ fun H2 e2 => by
  cases b with
  | true =>
    show ta σ H2 Q
    exact h1 rfl H2 (e.trans e2) Q fun x H3 e3 => q x H3 (e2.trans e3)
  | false =>
    show tb σ H2 Q
    exact h2 rfl H2 (e.trans e2) Q fun x H3 e3 => q x H3 (e2.trans e3)
theorem ed_is {d' : PyData} (h : ED K te σ H d) (e : d = d') : ED K te σ H d' := by
  rw [← e]
  exact h
/-- a new tuple of data -/
theorem ed_tupL {xs : List V} {ds : List PyData} {r : List V → Hp → VK → Prop} (h : EvL te σ H xs) (hr : ∀ p H1 Q, H1 p = some (.lst xs) → (∀ l, H1 l = none → Q (.ref l) (upd H1 l (.tup xs))) → r [.ref p] H1 Q) (hd : DtAll K H xs ds) : ED K (tCB r (tCons te tNil)) σ H (.tuple ds) := fun H1 e Q q =>
  h H1 e _ fun p H2 hp e2 h2 => hr p H2 Q h2 fun l hl => q _ _ (e2.trans (Ex.new hl)) (.tup (st_of upd_same) (hd.ex ((e.trans e2).trans (Ex.new hl))))
theorem ed_tupA {xs : List V} {ds : List PyData} (h : EvU te σ H xs) (hd : DtAll K H xs ds) : ED K te σ H (.tuple ds) := fun H1 e Q q =>
  h H1 e _ fun p H2 hp e2 h2 => q _ _ e2 (.tup (st_of h2) (hd.ex (e.trans e2)))
theorem s_retD (h : ED K te σ H d) (k : ∀ x H1, Ex H H1 → Dt K H1 x d → D.rt x H1) : tRet te D σ H := h H (Ex.refl H) _ k
theorem s_asgD {i : Nat} (h : ED K te σ H d) (k : ∀ x H1, Ex H H1 → Dt K H1 x d → D.nx (σ.set i (some x)) H1) : tAsg te (gName i) D σ H := h H (Ex.refl H) _ fun x H1 e hx => k x H1 e hx
theorem q_asgD {i : Nat} (h : ED K te σ H d) (k : ∀ x H1, Ex H H1 → Dt K H1 x d → tz D (σ.set i (some x)) H1) : tSeq (tAsg te (gName i)) tz D σ H := s_asgD (D := { D with nx := tz D }) h k
/-- == and != of data -/
theorem rv_eqD {a b : PyData} (ha : Dt K H x a) (hb : Dt K H y b) (sa : SeqAt.shaped a = true) (sb : SeqAt.shaped b = true) : RV (rEqD K) x y H (.bl (PyData.eqv a b)) := fun H1 e _ q => ⟨a, b, (ha.ex e).dp, (hb.ex e).dp, sa, sb, q H1 (Ex.refl H1)⟩
theorem rv_neD {a b : PyData} (ha : Dt K H x a) (hb : Dt K H y b) (sa : SeqAt.shaped a = true) (sb : SeqAt.shaped b = true) : RV (rNeD K) x y H (.bl (!PyData.eqv a b)) := fun H1 e _ q => ⟨a, b, (ha.ex e).dp, (hb.ex e).dp, sa, sb, q H1 (Ex.refl H1)⟩
/-! ### promises of defs that change nothing -/
/-- a value comes back | data comes back -/
def Spv (pre : List V → Hp → V → Prop) : Sp := fun vs H Q _ => ∃ v, pre vs H v ∧ ∀ H', Ex H H' → Q v H'
def Spd (K : PySem.W.Frag) (pre : List V → Hp → PyData → Prop) : Sp := fun vs H Q _ => ∃ d, pre vs H d ∧ ∀ x H', Ex H H' → Dt K H' x d → Q x H'
theorem ev_cal {pre : List V → Hp → V → Prop} {vs : List V} {E : XK} {ta : TA} (h : EvA ta σ H vs) (hp : ∀ H1, Ex H H1 → pre vs H1 z) : Ev (tCall (Spv pre) [] E ta) σ H z := fun H1 e Q q =>
  h H1 e _ fun H2 e2 => ⟨z, by rw [List.append_nil]; exact hp H2 (e.trans e2), fun H3 e3 => q H3 (e2.trans e3)⟩
theorem ed_cal {pre : List V → Hp → PyData → Prop} {vs : List V} {E : XK} {ta : TA} (h : EvA ta σ H vs) (hp : ∀ H1, Ex H H1 → pre vs H1 d) : ED K (tCall (Spd K pre) [] E ta) σ H d := fun H1 e Q q =>
  h H1 e _ fun H2 e2 => ⟨d, by rw [List.append_nil]; exact hp H2 (e.trans e2), fun x H3 e3 hx => q x H3 (e2.trans e3) hx⟩
/-! ### built-ins -/
theorem ev_cb {r : List V → Hp → VK → Prop} {vs : List V} {ta : TA} (h : EvA ta σ H vs) (hr : ∀ H1 (Q : VK), Ex H H1 → Q z H1 → r vs H1 Q) : Ev (tCB r ta) σ H z := fun H1 e Q q =>
  h H1 e _ fun H2 e2 => hr H2 Q (e.trans e2) (q H2 e2)
theorem ea1 (h : Ev te σ H x) : EvA (tCons te tNil) σ H [x] := ea_cons h ea_nil
theorem ea2 {tf : TE} (h : Ev te σ H x) (h2 : Ev tf σ H y) : EvA (tCons te (tCons tf tNil)) σ H [x, y] := ea_cons h (ea_cons h2 ea_nil)
theorem ea3 {tf tg : TE} (h : Ev te σ H x) (h2 : Ev tf σ H y) (h3 : Ev tg σ H z) : EvA (tCons te (tCons tf (tCons tg tNil))) σ H [x, y, z] := ea_cons h (ea_cons h2 (ea_cons h3 ea_nil))
/-- a chain a op b op' c whose second link is asked when the first holds -/
theorem et_chain {r r' : R2} {tc : TE} {a b : Bool} (ha : Ev ta σ H x) (hb : Ev tb σ H y) (hc : Ev tc σ H z) (h1 : RV r x y H (.bl a)) (h2 : RV r' y z H (.bl b)) : EvT (tTest (tChain r r' ta tb tc)) σ H (a && b) := fun H1 e Q q =>
  ha H1 e _ fun H2 e2 => hb H2 (e.trans e2) _ fun H3 e3 => h1 H3 ((e.trans e2).trans e3) _ fun H4 e4 => ⟨a, rfl, by
    cases a with
    | true => exact iteT (hc H4 (((e.trans e2).trans e3).trans e4) _ fun H5 e5 => h2 H5 ((((e.trans e2).trans e3).trans e4).trans e5) _ fun H6 e6 => ⟨b, rfl, q H6 ((((e2.trans e3).trans e4).trans e5).trans e6)⟩)
    | false => exact iteF ⟨false, rfl, q H4 ((e2.trans e3).trans e4)⟩⟩
theorem ev_chain {r r' : R2} {tc : TE} {a b : Bool} (ha : Ev ta σ H x) (hb : Ev tb σ H y) (hc : Ev tc σ H z) (h1 : RV r x y H (.bl a)) (h2 : RV r' y z H (.bl b)) : Ev (tChain r r' ta tb tc) σ H (.bl (a && b)) := fun H1 e Q q =>
  ha H1 e _ fun H2 e2 => hb H2 (e.trans e2) _ fun H3 e3 => h1 H3 ((e.trans e2).trans e3) _ fun H4 e4 => ⟨a, rfl, by
    cases a with
    | true => exact iteT (hc H4 (((e.trans e2).trans e3).trans e4) _ fun H5 e5 => h2 H5 ((((e.trans e2).trans e3).trans e4).trans e5) _ fun H6 e6 => q H6 ((((e2.trans e3).trans e4).trans e5).trans e6))
    | false => exact iteF (q H4 ((e2.trans e3).trans e4))⟩
/-- a statement that is never reached -/
def tDead : TS := fun _ _ _ => False
theorem ps_dead {X : Cx} {st : Stmt} : PS X st tDead := ⟨fun _ _ _ _ _ _ h => False.elim h⟩
end

/-! ### comprehensions -/
section
variable {K : PySem.W.Frag} {σ : L2.St} {H : Hp} {t : TT} {te : TE} {α : Type}
theorem snoc_take {l : List α} {i : Nat} {x : α} (h : l[i]? = some x) : l.take (i + 1) = l.take i ++ [x] := by
  rw [List.take_succ, h]
  rfl
def made (p : α → Bool) (g : α → V) (l : List α) : List V := (l.filter p).map g
theorem made_yes {p : α → Bool} {g : α → V} {l : List α} {i : Nat} {x : α} (h : l[i]? = some x) (hp : p x = true) : made p g (l.take (i + 1)) = made p g (l.take i) ++ [g x] := by
  unfold made
  rw [snoc_take h, List.filter_append, List.map_append, List.filter_cons, if_pos hp] <;> rfl
theorem made_no {p : α → Bool} {g : α → V} {l : List α} {i : Nat} {x : α} (h : l[i]? = some x) (hp : p x = false) : made p g (l.take (i + 1)) = made p g (l.take i) := by
  unfold made
  rw [snoc_take h, List.filter_append, List.map_append, List.filter_cons, if_neg (by rw [hp]; decide)]
  exact List.append_nil _
theorem made_len {p : α → Bool} {g : α → V} {l : List α} {n : Nat} : (made p g (l.take n)).length ≤ l.length := by
  unfold made
  rw [List.length_map]
  have h1 := List.length_filter_le p (l.take n)
  have h2 := List.length_take_le n l
  have h3 := List.length_take (i := n) (l := l)
  omega
/-- over anything that walks l -/
theorem lc_made {J : It} {G : Hp → Prop} {j : Nat} {vs : List Nat} {l : List α} {val : α → V} {D : Addr} {Q : VK} (p : α → Bool) (g : α → V) (wk : Walk J l.length G fun i H x H' => H' = H ∧ ∃ c, l[i]? = some c ∧ x = val c) (hG : ∀ H', Ex H H' → G H') (hz : l.length ≤ 40000) (hD : H D = none)
    (hw : ∀ x, wipe ((wipe σ vs).set j (some x)) vs = wipe σ vs) (ht : ∀ c ∈ l, ∀ H1, Ex H H1 → EvT t ((wipe σ vs).set j (some (val c))) H1 (p c))
    (he : ∀ c ∈ l, p c = true → ∀ H1, Ex H H1 → Ev te ((wipe σ vs).set j (some (val c))) H1 (g c)) (q : ∀ H', Ex H H' → H' D = some (.lst (made p g l)) → Q (.ref D) H') :
    ∃ W : Nat → Nat → Hp → Prop, (∃ m, W 0 m (upd H D (.lst []))) ∧ ∀ i m H, W i m H → (J.stop i H ∧ Q (.ref D) H) ∨ (J.go i H ∧ ∃ Nx : Hp → Prop, (∀ H', Nx H' → ∃ m', m' < m ∧ W (i + 1) m' H') ∧ ∀ x H', J.yld i H x H' → gName j x (wipe σ vs) H' fun σ2 H2 => wipe σ2 vs = wipe σ vs ∧ t σ2 H2 fun b H3 =>
      if b = true then te σ2 H3 fun y H4 => ∃ acc, H4 D = some (.lst acc) ∧ acc.length < sizeLine ∧ Nx (upd H4 D (.lst (acc ++ [y]))) else Nx H3) := by
  refine lc_it wk (fun i H' => Ex H H' ∧ H' D = some (.lst (made p g (l.take i)))) ⟨Ex.new hD, upd_same⟩ (fun i H' _ h => hG H' h.1) ?_ fun H' h => q H' h.1 (by have := h.2; rw [List.take_length] at this; exact this)
  rintro i x H1 H2 hi ⟨e1, h1⟩ ⟨rfl, c, hc, rfl⟩
  have hm : c ∈ l := List.mem_of_getElem? hc
  refine ⟨hw _, ht c hm H2 e1 H2 (Ex.refl H2) _ fun H3 e3 => ?_⟩
  cases hp : p c with
  | true =>
    refine iteT (he c hm hp H2 e1 H3 e3 _ fun H4 e4 => ⟨_, e4 D _ (e3 D _ h1), sz_lt (by have := made_len (p := p) (g := g) (l := l) (n := i); omega), Ex.mut ((e1.trans e3).trans e4) hD, ?_⟩)
    rw [made_yes hc hp]
    exact upd_same
  | false =>
    refine iteF ⟨e1.trans e3, ?_⟩
    rw [made_no hc hp]
    exact e3 D _ h1
theorem made_all {g : α → V} {l : List α} : made (fun _ => true) g l = l.map g := by
  unfold made
  rw [List.filter_eq_self.mpr fun _ _ => rfl]
/-- over a text's signs -/
theorem el_str {tl : TE} {j : Nat} {vs : List Nat} {w : Mi.Tx} (p : Nat → Bool) (g : Nat → V) (h : Ev tl σ H (.str (Mi.S w))) (hz : w.length ≤ 40000) (hw : ∀ x, wipe ((wipe σ vs).set j (some x)) vs = wipe σ vs)
    (ht : ∀ c ∈ w, ∀ H1, Ex H H1 → EvT t ((wipe σ vs).set j (some (.str ⟨#[c]⟩))) H1 (p c)) (he : ∀ c ∈ w, p c = true → ∀ H1, Ex H H1 → Ev te ((wipe σ vs).set j (some (.str ⟨#[c]⟩))) H1 (g c)) :
    EvL (tLc (iStr tl) (gName j) t te vs) σ H (made p g w) := fun H1 e Q q => h H1 e _ fun H2 e2 => ⟨Mi.S w, rfl, fun D hD =>
  lc_made (l := w) (val := fun c => .str ⟨#[c]⟩) p g (by
    have k := walk_str (z := Mi.S w)
    have e0 : (Mi.S w).cps.size = w.length := by simp [SX.S]
    rw [e0] at k
    exact k.mono (fun _ _ => trivial) fun i H v H' _ _ ⟨h1, c, h2, h3⟩ => ⟨h1, c, by
      have := h2
      simpa [SX.S] using this, h3⟩) (fun _ _ => trivial) hz hD hw (fun c hc H3 e3 => ht c hc H3 ((e.trans e2).trans e3)) (fun c hc hp H3 e3 => he c hc hp H3 ((e.trans e2).trans e3)) fun H3 e3 h3 => q D H3 (fresh_back e2 hD) (e2.trans e3) h3⟩
theorem walk_mapL {K : PySem.W.Frag} {a : Addr} {l : List α} {val : α → V} : Walk (Itl K a) l.length (fun H => SqL K H a (l.map val)) fun i H x H' => H' = H ∧ ∃ c, l[i]? = some c ∧ x = val c := by
  have k := walk_list (K := K) (a := a) (xs := l.map val)
  rw [List.length_map] at k
  exact k.mono (fun _ h => h) fun i H v H' _ _ ⟨h1, h2⟩ => ⟨h1, by
    rw [List.getElem?_map] at h2
    cases r : l[i]? with
    | none => rw [r] at h2; cases h2
    | some c => rw [r] at h2; exact ⟨c, rfl, (Option.some.inj h2).symm⟩⟩
theorem walk_mapT {K : PySem.W.Frag} {a : Addr} {l : List α} {val : α → V} : Walk (Itt K a) l.length (fun H => SqT K H a (l.map val)) fun i H x H' => H' = H ∧ ∃ c, l[i]? = some c ∧ x = val c := by
  have k := walk_tup (K := K) (a := a) (xs := l.map val)
  rw [List.length_map] at k
  exact k.mono (fun _ h => h) fun i H v H' _ _ ⟨h1, h2⟩ => ⟨h1, by
    rw [List.getElem?_map] at h2
    cases r : l[i]? with
    | none => rw [r] at h2; cases h2
    | some c => rw [r] at h2; exact ⟨c, rfl, (Option.some.inj h2).symm⟩⟩
/-- over a list, a tuple of known values -/
theorem el_seq {tl : TE} {j : Nat} {vs : List Nat} {a : Addr} {l : List α} {val : α → V} (p : α → Bool) (g : α → V) (h : Ev tl σ H (.ref a)) (hx : SqL K H a (l.map val)) (hz : l.length ≤ 40000) (hw : ∀ x, wipe ((wipe σ vs).set j (some x)) vs = wipe σ vs)
    (ht : ∀ c ∈ l, ∀ H1, Ex H H1 → EvT t ((wipe σ vs).set j (some (val c))) H1 (p c)) (he : ∀ c ∈ l, p c = true → ∀ H1, Ex H H1 → Ev te ((wipe σ vs).set j (some (val c))) H1 (g c)) :
    EvL (tLc (iList K tl) (gName j) t te vs) σ H (made p g l) := fun H1 e Q q => h H1 e _ fun H2 e2 => ⟨a, rfl, ⟨_, ex_l (e.trans e2) hx⟩, fun D hD =>
  lc_made (l := l) (val := val) p g walk_mapL (fun H3 e3 => ex_l ((e.trans e2).trans e3) hx) hz hD hw (fun c hc H3 e3 => ht c hc H3 ((e.trans e2).trans e3)) (fun c hc hp H3 e3 => he c hc hp H3 ((e.trans e2).trans e3)) fun H3 e3 h3 => q D H3 (fresh_back e2 hD) (e2.trans e3) h3⟩
theorem el_tup {tl : TE} {j : Nat} {vs : List Nat} {a : Addr} {l : List α} {val : α → V} (p : α → Bool) (g : α → V) (h : Ev tl σ H (.ref a)) (hx : SqT K H a (l.map val)) (hz : l.length ≤ 40000) (hw : ∀ x, wipe ((wipe σ vs).set j (some x)) vs = wipe σ vs)
    (ht : ∀ c ∈ l, ∀ H1, Ex H H1 → EvT t ((wipe σ vs).set j (some (val c))) H1 (p c)) (he : ∀ c ∈ l, p c = true → ∀ H1, Ex H H1 → Ev te ((wipe σ vs).set j (some (val c))) H1 (g c)) :
    EvL (tLc (iTup K tl) (gName j) t te vs) σ H (made p g l) := fun H1 e Q q => h H1 e _ fun H2 e2 => ⟨a, rfl, ⟨_, ex_t (e.trans e2) hx⟩, fun D hD =>
  lc_made (l := l) (val := val) p g walk_mapT (fun H3 e3 => ex_t ((e.trans e2).trans e3) hx) hz hD hw (fun c hc H3 e3 => ht c hc H3 ((e.trans e2).trans e3)) (fun c hc hp H3 e3 => he c hc hp H3 ((e.trans e2).trans e3)) fun H3 e3 h3 => q D H3 (fresh_back e2 hD) (e2.trans e3) h3⟩
/-- over a new list, a new tuple -/
theorem el_seqN {tl : TE} {j : Nat} {vs : List Nat} {l : List α} {val : α → V} (p : α → Bool) (g : α → V) (h : EvL tl σ H (l.map val)) (hz : l.length ≤ 40000) (hw : ∀ x, wipe ((wipe σ vs).set j (some x)) vs = wipe σ vs)
    (ht : ∀ c ∈ l, ∀ H1, Ex H H1 → EvT t ((wipe σ vs).set j (some (val c))) H1 (p c)) (he : ∀ c ∈ l, p c = true → ∀ H1, Ex H H1 → Ev te ((wipe σ vs).set j (some (val c))) H1 (g c)) :
    EvL (tLc (iList K tl) (gName j) t te vs) σ H (made p g l) := fun H1 e Q q => h H1 e _ fun a H2 ha e2 h2 => ⟨a, rfl, ⟨_, sq_of h2⟩, fun D hD =>
  lc_made (l := l) (val := val) p g walk_mapL (fun H3 e3 => ex_l e3 (sq_of h2)) hz hD hw (fun c hc H3 e3 => ht c hc H3 ((e.trans e2).trans e3)) (fun c hc hp H3 e3 => he c hc hp H3 ((e.trans e2).trans e3)) fun H3 e3 h3 => q D H3 (fresh_back e2 hD) (e2.trans e3) h3⟩
theorem el_tupN {tl : TE} {j : Nat} {vs : List Nat} {l : List α} {val : α → V} (p : α → Bool) (g : α → V) (h : EvU tl σ H (l.map val)) (hz : l.length ≤ 40000) (hw : ∀ x, wipe ((wipe σ vs).set j (some x)) vs = wipe σ vs)
    (ht : ∀ c ∈ l, ∀ H1, Ex H H1 → EvT t ((wipe σ vs).set j (some (val c))) H1 (p c)) (he : ∀ c ∈ l, p c = true → ∀ H1, Ex H H1 → Ev te ((wipe σ vs).set j (some (val c))) H1 (g c)) :
    EvL (tLc (iTup K tl) (gName j) t te vs) σ H (made p g l) := fun H1 e Q q => h H1 e _ fun a H2 ha e2 h2 => ⟨a, rfl, ⟨_, st_of h2⟩, fun D hD =>
  lc_made (l := l) (val := val) p g walk_mapT (fun H3 e3 => ex_t e3 (st_of h2)) hz hD hw (fun c hc H3 e3 => ht c hc H3 ((e.trans e2).trans e3)) (fun c hc hp H3 e3 => he c hc hp H3 ((e.trans e2).trans e3)) fun H3 e3 h3 => q D H3 (fresh_back e2 hD) (e2.trans e3) h3⟩
theorem el_eq {xs ys : List V} (h : EvL te σ H xs) (e : xs = ys) : EvL te σ H ys := by
  rw [← e]
  exact h
theorem et_yes : EvT tYes σ H true := fun H1 _ _ q => q H1 (Ex.refl H1)
end
end K9
set_option Elab.async false
set_option linter.all false
set_option maxRecDepth 100000
set_option maxHeartbeats 4000000
namespace K9
open PySem PySem.Spec PyProof.Rows L2 Evl
open C8 (pe_c pe_gc)
/-- what the top has left: the constants, and that the built-ins are theirs -/
structure Gb (mg : Str → Option Value) : Prop where
  f_isinstance : mg "isinstance" = none
  f_len : mg "len" = none
  f_all : mg "all" = none
  f_min : mg "min" = none
  f_max : mg "max" = none
  f_abs : mg "abs" = none
  f_repr : mg "repr" = none
  f_tuple : mg "tuple" = none
  f_str : mg "str" = none
  f_int : mg "int" = none
  f_range : mg "range" = none
  f_enumerate : mg "enumerate" = none
  f_bool : mg "bool" = none
  c_MAX_CELL : ∃ u, mg "MAX_CELL" = some u ∧ RelV (.int 996) u
  c_MAX_NAME : ∃ u, mg "MAX_NAME" = some u ∧ RelV (.int 4) u
  c_LETTERS : ∃ u, mg "LETTERS" = some u ∧ RelV (.str "abcdefghijklmnopqrstuvwxyz") u
  c_MOST_NEW : ∃ u, mg "MOST_NEW" = some u ∧ RelV (.int 48) u
  c_PUT : ∃ u, mg "PUT" = some u ∧ RelV (.str "put") u
  c_PATCH : ∃ u, mg "PATCH" = some u ∧ RelV (.str "patch") u
  c_DROP : ∃ u, mg "DROP" = some u ∧ RelV (.str "drop") u
  c_RENAME : ∃ u, mg "RENAME" = some u ∧ RelV (.str "rename") u
  c_PAIR : ∃ u, mg "PAIR" = some u ∧ RelV (.int 2) u
  c_CELL : ∃ u, mg "CELL" = some u ∧ RelV (.str "cell") u
  c_THERE : ∃ u, mg "THERE" = some u ∧ RelV (.str "there") u
  c_FIGURES : ∃ u, mg "FIGURES" = some u ∧ RelV (.str "0123456789") u
  c_NOTHING : ∃ u, mg "NOTHING" = some u ∧ RelV (.str "-") u
  c_NAME : ∃ u, mg "NAME" = some u ∧ RelV (.str "name") u
  c_PLACE : ∃ u, mg "PLACE" = some u ∧ RelV (.str "place") u
  c_NEW : ∃ u, mg "NEW" = some u ∧ RelV (.str "new") u
  c_SAVE : ∃ u, mg "SAVE" = some u ∧ RelV (.str "save") u
  c_AT : ∃ u, mg "AT" = some u ∧ RelV (.str "at") u
  c_MOST_AT_texts : ∃ u, mg "MOST_AT_texts" = some u ∧ RelV (.int 995) u
  c_MOST_AT_checker : ∃ u, mg "MOST_AT_checker" = some u ∧ RelV (.int 995) u
  c_MOST_WORD : ∃ u, mg "MOST_WORD" = some u ∧ RelV (.int 5) u
/-! ### shared lemmas -/
def inR (o : Option Nat) (a b : Int) : Bool := match o with
  | none => false
  | some n => decide (a ≤ (n : Int)) && decide ((n : Int) ≤ b)
section
variable {K : PySem.W.Frag} {σ : L2.St} {H H' : Hp} {ta tb te tx : TE} {t u : TT} {x y z v : V}
theorem ev_isi {a T : String} {b : Bool} (h : Ev te σ H x) (ht : ∀ H1, Ex H H1 → TyX K H1 x (.type a)) (hb : kitB a T = some b) : Ev (tCB (rIsi K) (tCons te (tCons (tC (.ty T)) tNil))) σ H (.bl b) :=
  ev_cb (ea2 h ev_c) fun H1 Q e q => ⟨x, .ty T, .type a, .type T, b, rfl, .ty T, ht H1 e, kit_ty hb, q⟩
theorem ty_int {i : Int} : TyX K H (.int i) (.type "int") := .base (.int i)
theorem ty_str {w : Str} : TyX K H (.str w) (.type "str") := .base (.str w)
theorem ty_non : TyX K H .non (.type "NoneType") := .base .non
theorem ty_bl {b : Bool} : TyX K H (.bl b) (.type "bool") := .base (.bl b)
theorem ty_tup {a : Addr} {xs : List V} (h : SqT K H a xs) : TyX K H (.ref a) (.type "tuple") := by
  rcases h with (h | ⟨o, h⟩) | ⟨o, its, n, h1, h2, _⟩
  · exact .base (.tup h)
  · exact .fTuple h
  · exact .kTuple h1 h2
theorem sz5 {n : Nat} (h : n ≤ 100000) : n ≤ sizeLine := sz_of h
theorem ev_lenS {w : Mi.Tx} (h : Ev te σ H (.str (Mi.S w))) (hz : w.length ≤ 100000) : Ev (tCB (fun xs H Q => ∃ z, xs = [.str z] ∧ z.length ≤ sizeLine ∧ Q (.int z.length) H) (tCons te tNil)) σ H (.int (w.length : Int)) :=
  ev_cb (ea1 h) fun H1 Q e q => ⟨Mi.S w, rfl, by rw [SX.S_len]; exact sz_of hz, by rw [SX.S_len]; exact q⟩
theorem ev_lenT {a : Addr} {xs : List V} (h : Ev te σ H (.ref a)) (hs : SqT K H a xs) : Ev (tCB (fun xs H Q => ∃ p ys, xs = [.ref p] ∧ (SqL K H p ys ∨ SqT K H p ys) ∧ Q (.int ys.length) H) (tCons te tNil)) σ H (.int (xs.length : Int)) :=
  ev_cb (ea1 h) fun H1 Q e q => ⟨a, xs, rfl, .inr (ex_t e hs), q⟩
theorem ev_lenL {a : Addr} {xs : List V} (h : Ev te σ H (.ref a)) (hs : SqL K H a xs) : Ev (tCB (fun xs H Q => ∃ p ys, xs = [.ref p] ∧ (SqL K H p ys ∨ SqT K H p ys) ∧ Q (.int ys.length) H) (tCons te tNil)) σ H (.int (xs.length : Int)) :=
  ev_cb (ea1 h) fun H1 Q e q => ⟨a, xs, rfl, .inl (ex_l e hs), q⟩
/-- all of a new list of bools -/
theorem ev_all {bs : List Bool} {xs : List V} (h : EvL te σ H xs) (e : xs = bs.map V.bl) : Ev (tCB (rAll K) (tCons te tNil)) σ H (.bl (bs.all id)) := fun H1 e1 Q q =>
  h H1 e1 _ fun p H2 hp e2 h2 => ⟨p, bs, rfl, sq_of (by rw [← e]; exact h2), q H2 e2⟩
theorem eu_tupL {xs : List V} (h : EvL te σ H xs) : EvU (tCB (fun xs H Q => ∃ p ys, xs = [.ref p] ∧ ((SqL K H p ys ∧ ∀ l, H l = none → Q (.ref l) (upd H l (.tup ys))) ∨ (SqT K H p ys ∧ Q (.ref p) H))) (tCons te tNil)) σ H xs := fun H1 e Q q =>
  h H1 e _ fun p H2 hp e2 h2 => ⟨p, xs, rfl, .inl ⟨sq_of h2, fun l hl => q l _ (fresh_back e2 hl) (e2.trans (Ex.new hl)) upd_same⟩⟩
theorem made_map {α β : Type} {f : β → V} {g : α → β} {l : List α} : made (fun _ => true) (fun c => f (g c)) l = (l.map g).map f := by
  rw [made_all, List.map_map] <;> rfl
theorem el_split {c : Nat} {w : Mi.Tx} (h : Ev ta σ H (.str (Mi.S w))) (h2 : Ev te σ H (.str (Mi.S [c]))) (hc : c < 256) (hz : w.length ≤ 100000) :
    EvL (tM1 (fun x xs H Q => ∃ a b, x = .str a ∧ xs = [.str b] ∧ (b.length == 0) = false ∧ a.length + 2 ≤ sizeLine ∧ rNewStrs (Txt.split a b) H Q) ta te) σ H ((TL.spl [c] 0 [] w).map fun p => V.str (Mi.S p)) := fun H1 e Q q =>
  h H1 e _ fun H2 e2 => ⟨⟨_, rfl⟩, h2 H2 (e.trans e2) _ fun H3 e3 => ⟨Mi.S w, Mi.S [c], rfl, rfl, rfl, by
    rw [SX.S_len]
    exact Nat.le_trans (Nat.add_le_add_right hz 2) (by decide), fun p hp => q p _ (fresh_back (e2.trans e3) hp) ((e2.trans e3).trans (Ex.new hp)) (by
      rw [upd_same, SX.split_S (by simp) (by simpa using hc), List.map_map] <;> rfl)⟩⟩
theorem log_small {n : Nat} (h : n < 2 ^ 64) : n.log2 < 1920 := by
  by_cases e : n = 0
  · subst e; decide
  · exact (Nat.log2_lt e).mpr (Nat.lt_of_lt_of_le h (Nat.pow_le_pow_right (by decide) (by decide)))
theorem ev_strI {n : Nat} (h : Ev te σ H (vI n)) (hz : n < 2 ^ 64) : Ev (tCB (fun xs H Q => ∃ i, xs = [.int i] ∧ i.natAbs.log2 < 1920 ∧ Q (.str (toString i)) H) (tCons te tNil)) σ H (.str (Mi.S (TL.numL n))) :=
  ev_cb (ea1 h) fun H1 Q e q => ⟨(n : Int), rfl, log_small hz, by
    have e0 : (Str.ofString (toString (n : Int))) = Mi.S (TL.numL n) := SX.num_S n
    rw [← e0] at q
    exact q⟩
theorem spl_sum {c : Nat} : ∀ (w acc : Mi.Tx), ((TL.spl [c] 0 acc w).map List.length).sum + (TL.spl [c] 0 acc w).length = acc.length + w.length + 1
  | [], acc => by
    rw [TL.spl_nil]
    simp
  | d :: r, acc => by
    by_cases h : TL.pre [c] (d :: r) = true
    · rw [TL.spl_hit h]
      have := spl_sum (c := c) r []
      simp only [List.map_cons, List.sum_cons, List.length_cons, List.length_nil] at *
      have e : TL.spl [c] ([c].length - 1) [] r = TL.spl [c] 0 [] r := rfl
      rw [show (0 + 1 - 1) = 0 from rfl] at *
      omega
    · rw [TL.spl_miss ((Bool.not_eq_true _).mp h)]
      have := spl_sum (c := c) r (acc ++ [d])
      rw [List.length_append] at this
      simp only [List.length_cons, List.length_nil] at *
      omega
theorem le_sum {n : Nat} : ∀ {l : List Nat}, n ∈ l → n ≤ l.sum
  | [], h => by cases h
  | a :: l, h => by
    rw [List.sum_cons]
    rcases List.mem_cons.mp h with e | h
    · omega
    · have := le_sum h
      omega
theorem spl_ne {c : Nat} : ∀ (w acc : Mi.Tx), TL.spl [c] 0 acc w ≠ []
  | [], acc => by
    rw [TL.spl_nil]
    simp
  | d :: r, acc => by
    by_cases h : TL.pre [c] (d :: r) = true
    · rw [TL.spl_hit h]
      simp
    · rw [TL.spl_miss ((Bool.not_eq_true _).mp h)]
      exact spl_ne r _
theorem spl_many {c : Nat} {w : Mi.Tx} : (TL.spl [c] 0 [] w).length ≤ w.length + 1 := by
  have := spl_sum (c := c) w []
  simp only [List.length_nil] at this
  omega
theorem spl_part {c : Nat} {w p : Mi.Tx} (h : p ∈ TL.spl [c] 0 [] w) : p.length ≤ w.length := by
  have h1 := spl_sum (c := c) w []
  have h2 := le_sum (List.mem_map_of_mem (f := List.length) h)
  have h3 : 0 < (TL.spl [c] 0 [] w).length := List.length_pos_iff.mpr (spl_ne w [])
  simp only [List.length_nil] at h1
  omega
theorem val_lt : ∀ (n : Nat) (w : Mi.Tx), w.length = n → Mi.allFig w = true → Mi.val w < 10 ^ n := by
  intro n
  induction n with
  | zero =>
    intro w h _
    have e : w = [] := List.length_eq_zero_iff.mp h
    subst e
    decide
  | succ n ih =>
    intro w h hd
    have hne : w ≠ [] := by intro e; subst e; cases h
    obtain ⟨r, c, e⟩ : ∃ r c, w = r ++ [c] := ⟨w.dropLast, w.getLast hne, (List.dropLast_concat_getLast hne).symm⟩
    subst e
    have hl : r.length = n := by simpa using h
    unfold Mi.allFig at hd
    rw [List.all_append, Bool.and_eq_true] at hd
    have h1 := ih r hl hd.1
    have h2 := (Mi.figs_mem c).mp (of_decide_eq_true (by simpa using hd.2))
    show NumText.digitsVal (r ++ [c]) < _
    rw [NumText.digitsVal_snoc, Nat.pow_succ]
    have h3 : NumText.digitsVal r < 10 ^ n := h1
    omega
theorem val_small {w : Mi.Tx} (h : w.length ≤ 9) (hd : Mi.allFig w = true) : Mi.val w < 2 ^ 64 :=
  Nat.lt_of_lt_of_le (val_lt w.length w rfl hd) (Nat.le_trans (Nat.pow_le_pow_right (by decide) h) (by decide))
theorem ev_intS {w : Mi.Tx} (h : Ev te σ H (.str (Mi.S w))) (hne : w ≠ []) (hl : w.length ≤ 9) (hd : Mi.allFig w = true) : Ev (tCB (fun xs H Q => ∃ a n, xs = [.str a] ∧ PySem.intText? a = some n ∧ a.length ≤ 640 ∧ Q (.int n) H) (tCons te tNil)) σ H (vI (Mi.val w)) :=
  ev_cb (ea1 h) fun H1 Q e q => ⟨Mi.S w, _, rfl, SX.int_S (List.all_eq_true.mpr fun c hc => by
    have := (Mi.figs_mem c).mp (of_decide_eq_true (List.all_eq_true.mp hd c hc))
    simp [this.1, this.2]) hne (Nat.le_trans hl (by decide)), by rw [SX.S_len]; exact Nat.le_trans hl (by decide), q⟩
theorem dec_S {a b : Mi.Tx} : decide (V.str (Mi.S a) = V.str (Mi.S b)) = decide (a = b) := by
  rw [dec_str]
  exact SX.S_beq_eq
theorem rv_eqS {a b : Mi.Tx} : RV rEq (.str (Mi.S a)) (.str (Mi.S b)) H (.bl (decide (a = b))) := by
  rw [← dec_S]
  exact rv_eq rfl
theorem rv_neS {a b : Mi.Tx} : RV rNe (.str (Mi.S a)) (.str (Mi.S b)) H (.bl (!decide (a = b))) := by
  rw [← dec_S]
  exact rv_ne rfl
theorem rv_isN : RV (fun x y H Q => y = .non ∧ Q (.bl (decide (x = .non))) H) x .non H (.bl (decide (x = .non))) := rv_val fun _ _ _ q => ⟨rfl, q⟩
theorem rv_notN : RV (fun x y H Q => y = .non ∧ Q (.bl (!decide (x = .non))) H) x .non H (.bl (!decide (x = .non))) := rv_val fun _ _ _ q => ⟨rfl, q⟩
theorem et_op {r : R2} {b : Bool} (h : Ev ta σ H x) (h2 : Ev tb σ H y) (hr : RV r x y H (.bl b)) : EvT (tTest (tOp r ta tb)) σ H b := et_test (ev_op h h2 hr)
end
section
variable {P : Program} {w : World} {K : PySem.W.Frag} {mg : Str → Option Value} {base : Heap}
/-! ### is_whole -/
def p_is_whole : List V → Hp → V → Prop := fun vs _ v => ∃ o : Option Nat, vs = [oV o] ∧ v = .bl o.isSome
abbrev N_is_whole : List Str := ["value"]
theorem S_is_whole : FnScope N_is_whole ["value"] (defScope (top 10)) := ⟨rfl, rfl, rfl, by decide +kernel, rfl, by decide +kernel, by decide +kernel⟩
theorem B_is_whole (kV doc pm : Value) (an : Option Addr) (cdv ct : Value) (us : List Value) (hl : us.length = (["value"] : List Str).length) : bindArgs (PySem.W.fnOf "is_whole" "is_whole" (defArgs (top 10)) (defBody (top 10)) (defScope (top 10)) .none kV doc pm an cdv ct) ⟨us, []⟩ = pure ((["value"] : List Str).zip us) := match us, hl with | [_], _ => rfl
theorem c_is_whole (D : DefOk K mg "is_whole" (top 10)) (G : Gb mg) : C8.Cal P w K mg base 1 "is_whole" (Spv p_is_whole) [] := cal_of D S_is_whole B_is_whole (fun vs H Q E h => by obtain ⟨v, ⟨o, rfl, _⟩, _⟩ := h; rfl) fun f cdv A outer s H vs Q E hr h => by
  refine ⟨_, (pss_one (ps_ret (pe_and (pe_callB call_isi (by rfl) G.f_isinstance boot_isinstance (pa_cons (pv 0) (pa_cons (pe_bltn (v := .ty "int") (by rfl) G.f_int boot_int rfl) pa_nil))) (pe_one (pe_not (pe_callB call_isi (by rfl) G.f_isinstance boot_isinstance (pa_cons (pv 0) (pa_cons (pe_bltn (v := .ty "bool") (by rfl) G.f_bool boot_bool rfl) pa_nil)))))))), ?_⟩
  obtain ⟨_, ⟨o, rfl, rfl⟩, k⟩ := h
  cases o with
  | none => exact s_ret (ev_andV (a := false) (b := false) (ev_isi (ev_var rfl) (fun _ _ => ty_non) (by decide +kernel)) fun h => nomatch h) k
  | some n => exact s_ret (ev_andV (a := true) (b := true) (ev_isi (ev_var rfl) (fun _ _ => ty_int) (by decide +kernel)) fun _ => ev_notV (a := false) (ev_isi (ev_var rfl) (fun _ _ => ty_int) (by decide +kernel))) k
/-! ### is_within -/
def p_is_within : List V → Hp → V → Prop := fun vs _ v => ∃ (o : Option Nat) (a b : Int), vs = [oV o, .int a, .int b] ∧ v = .bl (inR o a b)
abbrev N_is_within : List Str := ["value", "least", "greatest"]
theorem S_is_within : FnScope N_is_within ["value", "least", "greatest"] (defScope (top 11)) := ⟨rfl, rfl, rfl, by decide +kernel, rfl, by decide +kernel, by decide +kernel⟩
theorem B_is_within (kV doc pm : Value) (an : Option Addr) (cdv ct : Value) (us : List Value) (hl : us.length = (["value", "least", "greatest"] : List Str).length) : bindArgs (PySem.W.fnOf "is_within" "is_within" (defArgs (top 11)) (defBody (top 11)) (defScope (top 11)) .none kV doc pm an cdv ct) ⟨us, []⟩ = pure ((["value", "least", "greatest"] : List Str).zip us) := match us, hl with | [_, _, _], _ => rfl
theorem c_is_within (D : DefOk K mg "is_within" (top 11)) (G : Gb mg) (c_is_whole : C8.Cal P w K mg base 1 "is_whole" (Spv p_is_whole) []) : C8.Cal P w K mg base 2 "is_within" (Spv p_is_within) [] := cal_of D S_is_within B_is_within (fun vs H Q E h => by obtain ⟨v, ⟨o, a, b, rfl, _⟩, _⟩ := h; rfl) fun f cdv A outer s H vs Q E hr h => by
  refine ⟨_, (pss_one (ps_ret (pe_and (C8.pe_c c_is_whole hr (by decide) (by rfl) (pa_cons (pv 0) pa_nil)) (pe_one (pe_chain op_le op_le (pv 1) (pv 0) (pv 2)))))), ?_⟩
  obtain ⟨_, ⟨o, a, b, rfl, rfl⟩, k⟩ := h
  cases o with
  | none => exact s_ret (ev_andV (b := false) (ev_cal (ea1 (ev_var rfl)) fun _ _ => ⟨none, rfl, rfl⟩) fun h => nomatch h) k
  | some n => exact s_ret (ev_andV (ev_cal (ea1 (ev_var rfl)) fun _ _ => ⟨some n, rfl, rfl⟩) fun _ => ev_chain (ev_var rfl) (ev_var rfl) (ev_var rfl) rv_I0 rv_I0) k
/-! ### is_cell -/
def p_is_cell : List V → Hp → V → Prop := fun vs _ v => ∃ (o : Option Nat), vs = [oV o] ∧ v = .bl (inR o 0 996)
abbrev N_is_cell : List Str := ["value"]
theorem S_is_cell : FnScope N_is_cell ["value"] (defScope (top 12)) := ⟨rfl, rfl, rfl, by decide +kernel, rfl, by decide +kernel, by decide +kernel⟩
theorem B_is_cell (kV doc pm : Value) (an : Option Addr) (cdv ct : Value) (us : List Value) (hl : us.length = (["value"] : List Str).length) : bindArgs (PySem.W.fnOf "is_cell" "is_cell" (defArgs (top 12)) (defBody (top 12)) (defScope (top 12)) .none kV doc pm an cdv ct) ⟨us, []⟩ = pure ((["value"] : List Str).zip us) := match us, hl with | [_], _ => rfl
theorem c_is_cell (D : DefOk K mg "is_cell" (top 12)) (G : Gb mg) (c_is_within : C8.Cal P w K mg base 2 "is_within" (Spv p_is_within) []) : C8.Cal P w K mg base 3 "is_cell" (Spv p_is_cell) [] := cal_of D S_is_cell B_is_cell (fun vs H Q E h => by obtain ⟨v, ⟨o, rfl, _⟩, _⟩ := h; rfl) fun f cdv A outer s H vs Q E hr h => by
  refine ⟨_, (pss_one (ps_ret (C8.pe_c c_is_within hr (by decide) (by rfl) (pa_cons (pv 0) (pa_cons pe_int (pa_cons (C8.pe_gc (by rfl) G.c_MAX_CELL) pa_nil)))))), ?_⟩
  obtain ⟨_, ⟨o, rfl, rfl⟩, k⟩ := h
  exact s_ret (ev_cal (ea3 (ev_var rfl) ev_c ev_c) fun _ _ => ⟨o, 0, 996, rfl, rfl⟩) k
/-! ### is_name -/
def p_is_name : List V → Hp → V → Prop := fun vs _ v => ∃ (w : Mi.Tx), vs = [.str (Mi.S w)] ∧ w.length ≤ 20000 ∧ v = .bl (Mi.isNm w)
abbrev N_is_name : List Str := ["value", "sign"]
theorem S_is_name : FnScope N_is_name ["value"] (defScope (top 14)) := ⟨rfl, rfl, rfl, by decide +kernel, rfl, by decide +kernel, by decide +kernel⟩
theorem B_is_name (kV doc pm : Value) (an : Option Addr) (cdv ct : Value) (us : List Value) (hl : us.length = (["value"] : List Str).length) : bindArgs (PySem.W.fnOf "is_name" "is_name" (defArgs (top 14)) (defBody (top 14)) (defScope (top 14)) .none kV doc pm an cdv ct) ⟨us, []⟩ = pure ((["value"] : List Str).zip us) := match us, hl with | [_], _ => rfl
theorem c_is_name (D : DefOk K mg "is_name" (top 14)) (G : Gb mg) : C8.Cal P w K mg base 1 "is_name" (Spv p_is_name) [] := cal_of D S_is_name B_is_name (fun vs H Q E h => by obtain ⟨v, ⟨o, rfl, _⟩, _⟩ := h; rfl) fun f cdv A outer s H vs Q E hr h => by
  refine ⟨_, (pss_cons (ps_if ((pw_or (pt_not (pt_val (pe_callB call_isi (by rfl) G.f_isinstance boot_isinstance (pa_cons (pv 0) (pa_cons (pe_bltn (v := .ty "str") (by rfl) G.f_str boot_str rfl) pa_nil))))) (pw_or1 (pt_not (pt_chain op_le op_le pe_int (pe_callB call_len_str (by rfl) G.f_len boot_len (pa_cons (pv 0) pa_nil)) (C8.pe_gc (by rfl) G.c_MAX_NAME)))))).pt (pss_one (ps_ret pe_bl)) pss_nil)
  (pss_one (ps_ret (pe_callB (cr_all rfl) (by rfl) G.f_all boot_all (pa_cons (pe_lc (own := [("sign", 1)]) (g := gName 1) (tt := tYes) rfl S_is_name.nd (pi_str (pv 0)) (blkOk_by (N := N_is_name) (sc := defScope (top 14)) (by decide +kernel)) (fun _ _ _ _ _ => pg_name (i := 1) S_is_name.nd rfl (Or.inl rfl)) (fun _ _ _ _ _ => pts_nil) (fun _ _ _ _ _ => (pe_cmpR op_in_sign (pv 1) (C8.pe_gc (by rfl) G.c_LETTERS) (by with_unfolding_all rfl)))) pa_nil))))), ?_⟩
  obtain ⟨_, ⟨w, rfl, hz, rfl⟩, k⟩ := h
  have k' : ∀ {b : Bool} {H1 : Hp}, Ex H H1 → Mi.isNm w = b → ∀ H2, Ex H1 H2 → Q (.bl b) H2 := fun {b H1} e1 hb H2 e2 => by
    rw [← hb]
    exact k H2 (e1.trans e2)
  refine q_when (b := !(decide (1 ≤ w.length) && decide (w.length ≤ 4))) (et_is (et_or (a := false) (et_not (a := true) (et_B (ev_isi (b := true) (ev_var rfl) (fun _ _ => ty_str) (by decide +kernel)))) fun _ => et_not (et_chain ev_c (ev_lenS (w := w) (ev_var rfl) (by omega)) ev_c rv_I0 rv_I0)) ?_) (fun hb H1 e1 => s_ret ev_c (k' e1 ?_)) (fun hb H1 e1 => s_ret (ev_all (bs := w.map fun c => decide (c ∈ Mi.lets.cps.toList)) (el_str (fun _ => true) (fun c => .bl (decide (c ∈ Mi.lets.cps.toList))) (ev_var rfl) (by omega) (fun _ => rfl) (fun _ _ _ _ => et_yes) fun c hc _ H2 e2 => ev_op (ev_var rfl) ev_c (rv_val fun H3 e3 Q q => ⟨c, Mi.lets, rfl, rfl, q⟩)) ?_) (k' e1 ?_))
  · rw [show decide ((1 : Int) ≤ (w.length : Int)) = decide (1 ≤ w.length) from decide_eq_decide.mpr (by omega), show decide ((w.length : Int) ≤ 4) = decide (w.length ≤ 4) from decide_eq_decide.mpr (by omega)] <;> rfl
  · unfold Mi.isNm
    rw [Bool.not_eq_true'] at hb
    rw [hb] <;> rfl
  · rw [made_map (f := V.bl)]
  · unfold Mi.isNm
    rw [Bool.not_eq_false'] at hb
    rw [hb, Bool.true_and, List.all_map] <;> rfl
/-! ### is_save_name -/
def svOk (os : List (Option Nat)) : Bool := decide (os.length = 2) && os.all fun o => inR o 1 996
def p_is_save_name : List V → Hp → V → Prop := fun vs H v => ∃ (a : Addr) (os : List (Option Nat)), vs = [.ref a] ∧ SqT K H a (os.map oV) ∧ os.length ≤ 40000 ∧ v = .bl (svOk os)
abbrev N_is_save_name : List Str := ["value", "one"]
theorem S_is_save_name : FnScope N_is_save_name ["value"] (defScope (top 27)) := ⟨rfl, rfl, rfl, by decide +kernel, rfl, by decide +kernel, by decide +kernel⟩
theorem B_is_save_name (kV doc pm : Value) (an : Option Addr) (cdv ct : Value) (us : List Value) (hl : us.length = (["value"] : List Str).length) : bindArgs (PySem.W.fnOf "is_save_name" "is_save_name" (defArgs (top 27)) (defBody (top 27)) (defScope (top 27)) .none kV doc pm an cdv ct) ⟨us, []⟩ = pure ((["value"] : List Str).zip us) := match us, hl with | [_], _ => rfl
theorem c_is_save_name (D : DefOk K mg "is_save_name" (top 27)) (G : Gb mg) (c_is_within : C8.Cal P w K mg base 2 "is_within" (Spv p_is_within) []) : C8.Cal P w K mg base 3 "is_save_name" (Spv (p_is_save_name (K := K))) [] := cal_of D S_is_save_name B_is_save_name (fun vs H Q E h => by obtain ⟨v, ⟨a, o, rfl, _⟩, _⟩ := h; rfl) fun f cdv A outer s H vs Q E hr h => by
  refine ⟨_, (pss_one (ps_ret (pe_and (pe_callB call_isi (by rfl) G.f_isinstance boot_isinstance (pa_cons (pv 0) (pa_cons (pe_bltn (v := .ty "tuple") (by rfl) G.f_tuple boot_tuple rfl) pa_nil))) (pe_and (pe_cmpR op_eq (pe_callB call_len_seq (by rfl) G.f_len boot_len (pa_cons (pv 0) pa_nil)) (C8.pe_gc (by rfl) G.c_PAIR) (nomark _)) (pe_one (pe_callB (cr_all rfl) (by rfl) G.f_all boot_all (pa_cons (pe_lc (own := [("one", 1)]) (g := gName 1) (tt := tYes) rfl S_is_save_name.nd (pi_tup (pv 0)) (blkOk_by (N := N_is_save_name) (sc := defScope (top 27)) (by decide +kernel)) (fun _ _ _ _ _ => pg_name (i := 1) S_is_save_name.nd rfl (Or.inl rfl)) (fun _ _ _ _ _ => pts_nil) (fun _ _ _ _ _ => (C8.pe_c c_is_within hr (by decide) (by rfl) (pa_cons (pv 1) (pa_cons pe_int (pa_cons (C8.pe_gc (by rfl) G.c_MAX_CELL) pa_nil)))))) pa_nil))))))), ?_⟩
  obtain ⟨_, ⟨a, os, rfl, hs, hz, rfl⟩, k⟩ := h
  refine s_ret (ev_is (ev_andV (a := true) (ev_isi (b := true) (ev_var rfl) (fun _ e => ty_tup (ex_t e hs)) (by decide +kernel)) fun _ => ev_andV (ev_op (ev_lenT (ev_var rfl) hs) ev_c (rv_eq rfl)) fun _ => ev_all (bs := os.map fun o => inR o 1 996) (el_tup (fun _ => true) (fun o => .bl (inR o 1 996)) (ev_var rfl) hs hz (fun _ => rfl) (fun _ _ _ _ => et_yes) fun o _ _ H2 e2 => ev_cal (ea3 (ev_var rfl) ev_c ev_c) fun _ _ => ⟨o, 1, 996, rfl, rfl⟩) (made_map (f := V.bl))) ?_) k
  unfold svOk
  rw [dec_int, List.length_map, List.all_map, Bool.true_and]
  congr 2
  rw [Bool.eq_iff_iff]
  simp
  omega
theorem sv_none : svOk [] = false := rfl
/-! ### number_in -/
def p_number_in : List V → Hp → V → Prop := fun vs _ v => ∃ (w : Mi.Tx) (most : Nat), vs = [.str (Mi.S w), vI most] ∧ w.length ≤ 20000 ∧ v = oV (Mi.num 5 most w)
abbrev N_number_in : List Str := ["word", "most", "sign"]
theorem S_number_in : FnScope N_number_in ["word", "most"] (defScope (top 50)) := ⟨rfl, rfl, rfl, by decide +kernel, rfl, by decide +kernel, by decide +kernel⟩
theorem B_number_in (kV doc pm : Value) (an : Option Addr) (cdv ct : Value) (us : List Value) (hl : us.length = (["word", "most"] : List Str).length) : bindArgs (PySem.W.fnOf "number_in" "number_in" (defArgs (top 50)) (defBody (top 50)) (defScope (top 50)) .none kV doc pm an cdv ct) ⟨us, []⟩ = pure ((["word", "most"] : List Str).zip us) := match us, hl with | [_, _], _ => rfl
theorem c_number_in (D : DefOk K mg "number_in" (top 50)) (G : Gb mg) : C8.Cal P w K mg base 1 "number_in" (Spv p_number_in) [] := cal_of D S_number_in B_number_in (fun vs H Q E h => by obtain ⟨v, ⟨a, o, rfl, _⟩, _⟩ := h; rfl) fun f cdv A outer s H vs Q E hr h => by
  refine ⟨_, (pss_cons (ps_if ((pw_or (pt_cmpR op_eq (pv 0) pe_str (nomark _)) (pw_or (pt_cmpR op_gt (pe_callB call_len_str (by rfl) G.f_len boot_len (pa_cons (pv 0) pa_nil)) (C8.pe_gc (by rfl) G.c_MOST_WORD) (nomark _)) (pw_or1 (pt_not (pt_val (pe_callB (cr_all rfl) (by rfl) G.f_all boot_all (pa_cons (pe_lc (own := [("sign", 2)]) (g := gName 2) (tt := tYes) rfl S_number_in.nd (pi_str (pv 0)) (blkOk_by (N := N_number_in) (sc := defScope (top 50)) (by decide +kernel)) (fun _ _ _ _ _ => pg_name (i := 2) S_number_in.nd rfl (Or.inl rfl)) (fun _ _ _ _ _ => pts_nil) (fun _ _ _ _ _ => (pe_cmpR op_in_sign (pv 2) (C8.pe_gc (by rfl) G.c_FIGURES) (by with_unfolding_all rfl)))) pa_nil)))))))).pt (pss_one (ps_ret pe_non)) pss_nil)
  (pss_one (ps_ret (pe_ifExp ((pw_and (pt_cmpR op_eq (pe_callTy call_str_int (by rfl) G.f_str boot_str (pa_cons (pe_callTy call_int_str (by rfl) G.f_int boot_int (pa_cons (pv 0) pa_nil)) pa_nil)) (pv 0) (nomark _)) (pw_and1 (pt_cmpR op_le (pe_callTy call_int_str (by rfl) G.f_int boot_int (pa_cons (pv 0) pa_nil)) (pv 1) (nomark _))))).pt (pe_callTy call_int_str (by rfl) G.f_int boot_int (pa_cons (pv 0) pa_nil)) pe_non)))), ?_⟩
  obtain ⟨_, ⟨w, most, rfl, hz, rfl⟩, k⟩ := h
  have k' : ∀ {v : V} {H1 : Hp}, Ex H H1 → oV (Mi.num 5 most w) = v → ∀ H2, Ex H1 H2 → Q v H2 := fun {b H1} e1 hb H2 e2 => by
    rw [← hb]
    exact k H2 (e1.trans e2)
  refine q_when (b := decide (w = []) || (decide (5 < w.length) || !Mi.allFig w)) (et_is (et_or (et_op (ev_var rfl) ev_c (rv_eqS (b := []))) fun _ => et_or (et_op (ev_lenS (w := w) (ev_var rfl) (by omega)) ev_c rv_I0) fun _ => et_not (et_B (ev_all (bs := w.map fun c => decide (c ∈ Mi.figs.cps.toList)) (el_str (fun _ => true) (fun c => .bl (decide (c ∈ Mi.figs.cps.toList))) (ev_var rfl) (by omega) (fun _ => rfl) (fun _ _ _ _ => et_yes) fun c hc _ H2 e2 => ev_op (ev_var rfl) ev_c (rv_val fun H3 e3 Q q => ⟨c, Mi.figs, rfl, rfl, q⟩)) (made_map (f := V.bl))))) ?_) (fun hb H1 e1 => s_ret ev_c (k' e1 ?_)) (fun hb H1 e1 => ?_)
  · rw [show decide ((5 : Int) < (w.length : Int)) = decide (5 < w.length) from decide_eq_decide.mpr (by omega), List.all_map] <;> rfl
  · have : Mi.numOk 5 most w = false := by
      unfold Mi.numOk
      rw [Bool.or_eq_true, Bool.or_eq_true, decide_eq_true_iff, decide_eq_true_iff, Bool.not_eq_true'] at hb
      rcases hb with h | h | h
      · subst h; rfl
      · rw [decide_eq_false (by omega)]; simp
      · rw [h]; simp
    unfold Mi.num
    rw [this] <;> rfl
  · rw [Bool.or_eq_false_iff, Bool.or_eq_false_iff, decide_eq_false_iff_not, decide_eq_false_iff_not, Bool.not_eq_false'] at hb
    obtain ⟨h1, h2, h3⟩ := hb
    have iw : ∀ H2, Ev _ (start N_number_in [.str (Mi.S w), vI most]) H2 (vI (Mi.val w)) := fun H2 => ev_intS (te := tVar 0) (ev_var rfl) h1 (by omega) h3
    have e0 : Mi.num 5 most w = if (decide (TL.numL (Mi.val w) = w) && decide (Mi.val w ≤ most)) = true then some (Mi.val w) else none := by
      unfold Mi.num Mi.numOk
      have e1 : w.isEmpty = false := by
        cases w with
        | nil => exact absurd rfl h1
        | cons _ _ => rfl
      rw [e1, decide_eq_true (show w.length ≤ 5 by omega), h3] <;> rfl
    refine s_ret (ev_if (b := decide (TL.numL (Mi.val w) = w) && decide (Mi.val w ≤ most)) (et_is (et_and (et_op (ev_strI (iw _) (val_small (by omega) h3)) (ev_var rfl) rv_eqS) fun _ => et_op (iw _) (ev_var rfl) rv_I0) ?_) (v := oV (Mi.num 5 most w)) (fun hb => ?_) fun hb => ?_) (fun H2 e2 => k H2 (e1.trans e2))
    · congr 1
      exact decide_eq_decide.mpr (by unfold vI at *; omega)
    · rw [e0, if_pos hb]
      exact iw _
    · rw [e0, if_neg (by rw [hb]; decide)]
      exact ev_c
end
end K9
set_option Elab.async false
set_option linter.all false
set_option maxRecDepth 100000
set_option maxHeartbeats 4000000
namespace K9
open PySem PySem.Spec PyProof.Rows L2 Evl
/-! ### min of a pair -/
section
variable {prog : Program} {w : World} {A : Around} {E : Value → Shared → Prop} {s : Shared}
theorem min_pair {tp : Addr} {xs : Array (Int × Tok)} {Q : Value → Shared → Prop} (hh : A.handled = none) (ht : s.heap.IsTuple tp (intItems xs)) (hne : 0 < xs.size)
    (h : ∀ v h' tk, (intItems xs)[argBest (fun i j => decide (numAt xs i < numAt xs j)) (xs.size - 1)]? = some v → (∀ b o, s.heap.get? b = some o → h'.get? b = some o) → Q v { s with heap := h', toks := tk }) :
    wpAny (model prog w) A (call (.builtin "min") [.ref tp]) Q E s := by
  obtain ⟨o, ho, hc, n, hd⟩ := id ht
  have hI : tp ≠ s.heap.objs.size := Nat.ne_of_lt (Heap.lt_size ho)
  refine call_min_walk (wpAny_pyIter_tuple ht ?_)
  refine ⟨s.heap.objs.size, _, _, _, _, _, _, rfl, Walks.tuple (A := A.in1) hh _ tp hI (intItems xs), ⟨⟨_, Heap.get?_push_size _ rfl, rfl, rfl⟩, ht.at fun o e => Heap.get?_push_of_some _ e⟩, fun b hb => ?_, by simpa [intItems] using hne, CmpOf.ints_lt (numAt xs) (fun _ _ => intItems_at), fun v h' tk hP hk => ?_⟩
  · rcases List.mem_cons.mp hb with rfl | hb
    · exact Heap.lt_size (Heap.get?_push_size _ rfl)
    · obtain rfl := List.mem_singleton.mp hb
      exact Heap.lt_size (Heap.get?_push_of_some _ ho)
  · exact h v h' tk (by simpa [intItems] using hP) fun b o e => hk b o (fun hb => absurd (Heap.lt_size e) ((List.mem_singleton.mp hb) ▸ Nat.lt_irrefl _)) (Heap.get?_push_of_some _ e)
end
def rMinT (K : PySem.W.Frag) : List V → Hp → VK → Prop := fun vs H Q => ∃ (a : Addr) (i j : Int), vs = [.ref a] ∧ SqT K H a [.int i, .int j] ∧ Q (.int (if j < i then j else i)) H
theorem call_minT {X : Cx} (hc : X.calm = true) : CallR X (.builtin "min") (rMinT X.K) := by
  intro pins s σ H vs us Q I r h
  obtain ⟨a, i, j, rfl, hs, q⟩ := h
  obtain ⟨its, rv, ht, _⟩ := I.tuple hs
  rw [Vals.ref1 r]
  obtain ⟨t, u, rfl⟩ : ∃ t u, its = [.int i t, .int j u] := by
    cases rv with
    | cons r1 rv =>
      cases rv with
      | cons r2 rv =>
        cases rv
        obtain ⟨t, rfl⟩ := r1
        obtain ⟨u, rfl⟩ := r2
        exact ⟨t, u, rfl⟩
  refine min_pair (xs := #[(i, t), (j, u)]) (I.ok.hd hc) (by
    have h2 : s.heap.IsTuple a #[Value.int i t, Value.int j u] := ht
    simpa [intItems] using h2) (by show 0 < 2; decide) fun v h' tk hv hk => ?_
  have e : v = .int (if j < i then j else i) (if j < i then u else t) := by
    have e0 : argBest (fun x y => decide (numAt #[(i, t), (j, u)] x < numAt #[(i, t), (j, u)] y)) ((#[(i, t), (j, u)] : Array (Int × Tok)).size - 1) = if j < i then 1 else 0 := by
      show argBest _ 1 = _
      simp [argBest, numAt]
    rw [e0] at hv
    by_cases c : j < i
    · rw [if_pos c] at hv ⊢
      rw [if_pos c]
      simpa [intItems] using hv.symm
    · rw [if_neg c] at hv ⊢
      rw [if_neg c]
      simpa [intItems] using hv.symm
  rw [e]
  exact ⟨.int _, H, I.kept hk, ⟨_, rfl⟩, q⟩
/-! ### the mathematics -/
theorem inR1 {o : Option Nat} (h : ∀ n, o = some n → n ≤ 996) : inR o 1 996 = match o with
  | none => false
  | some n => decide (1 ≤ n) := by
  cases o with
  | none => rfl
  | some n =>
    have := h n rfl
    show (decide ((1 : Int) ≤ (n : Int)) && decide ((n : Int) ≤ 996)) = decide (1 ≤ n)
    rw [show decide ((n : Int) ≤ 996) = true from decide_eq_true (by omega), Bool.and_true]
    exact decide_eq_decide.mpr (by omega)
abbrev svNum (w : Mi.Tx) : List (Option Nat) := (TL.spl [46] 0 [] w).map (Mi.num 5 996)
abbrev clNum (w : Mi.Tx) : List (Option Nat) := (TL.spl [44] 0 [] w).map (Mi.num 5 996)
theorem num_all {w : Mi.Tx} {s : Nat} : ∀ o ∈ (TL.spl [s] 0 [] w).map (Mi.num 5 996), ∀ n, o = some n → n ≤ 996 := fun o ho n e => by
  obtain ⟨p, _, rfl⟩ := List.mem_map.mp ho
  exact Mi.num_le e
theorem sv_save {w : Mi.Tx} : if svOk (svNum w) = true then ∃ a b, svNum w = [some a, some b] ∧ Mi.save w = some (a, b) else Mi.save w = none := by
  have hall := num_all (w := w) (s := 46)
  have e : Mi.save w = match svNum w with
    | [some a, some b] => if 1 ≤ a ∧ 1 ≤ b then some (a, b) else none
    | _ => none := rfl
  rw [e]
  change ∀ o ∈ svNum w, _ at hall
  generalize svNum w = os at hall
  match os, hall with
  | [], _ => simp [svOk]
  | [x], _ => simp [svOk]
  | x :: y :: z :: r, _ => simp [svOk]
  | [none, y], _ => simp [svOk, inR]
  | [some a, none], _ => simp [svOk, inR]
  | [some a, some b], h =>
    have h1 := inR1 (h (some a) (by simp))
    have h2 := inR1 (h (some b) (by simp))
    have e : svOk [some a, some b] = (decide (1 ≤ a) && decide (1 ≤ b)) := by
      unfold svOk
      simp only [List.all_cons, List.all_nil, Bool.and_true, List.length_cons, List.length_nil]
      rw [h1, h2] <;> rfl
    rw [e]
    by_cases c : 1 ≤ a ∧ 1 ≤ b
    · rw [if_pos (by simp [c.1, c.2])]
      exact ⟨a, b, rfl, if_pos c⟩
    · rw [if_neg (by simpa using c)]
      exact if_neg c
theorem some_cells : ∀ (os : List (Option Nat)), if (os.any fun o => o.isNone) = true then Mi.somes os = none else ∃ cs, Mi.somes os = some cs ∧ os = cs.map some
  | [] => ⟨[], rfl, rfl⟩
  | none :: r => rfl
  | some n :: r => by
    have ih := some_cells r
    show if ((some n : Option Nat).isNone || r.any fun o => o.isNone) = true then (Mi.somes r).map (n :: ·) = none else ∃ cs, (Mi.somes r).map (n :: ·) = some cs ∧ some n :: r = cs.map some
    rw [show (some n : Option Nat).isNone = false from rfl, Bool.false_or]
    by_cases c : (r.any fun o => o.isNone) = true
    · rw [if_pos c] at ih ⊢
      rw [ih] <;> rfl
    · rw [if_neg c] at ih ⊢
      obtain ⟨cs, h1, h2⟩ := ih
      rw [h1]
      exact ⟨n :: cs, rfl, by rw [h2] <;> rfl⟩
theorem map_oV {cs : List Nat} : (cs.map some).map oV = cs.map vI := by rw [List.map_map] <;> rfl
section
variable {P : Program} {w : World} {K : PySem.W.Frag} {mg : Str → Option Value} {base : Heap}
/-! ### save_in_word -/
def svD (o : Option (Nat × Nat)) : PyData := oD (o.map fun p => .tuple [Mi.dI p.1, Mi.dI p.2])
def p_save_in_word : List V → Hp → PyData → Prop := fun vs _ d => ∃ (w : Mi.Tx), vs = [.str (Mi.S w)] ∧ w.length ≤ 10000 ∧ d = svD (Mi.save w)
abbrev N_save_in_word : List Str := ["word", "parts", "part"]
theorem S_save_in_word : FnScope N_save_in_word ["word"] (defScope (top 51)) := ⟨rfl, rfl, rfl, by decide +kernel, rfl, by decide +kernel, by decide +kernel⟩
theorem B_save_in_word (kV doc pm : Value) (an : Option Addr) (cdv ct : Value) (us : List Value) (hl : us.length = (["word"] : List Str).length) : bindArgs (PySem.W.fnOf "save_in_word" "save_in_word" (defArgs (top 51)) (defBody (top 51)) (defScope (top 51)) .none kV doc pm an cdv ct) ⟨us, []⟩ = pure ((["word"] : List Str).zip us) := match us, hl with | [_], _ => rfl
theorem c_save_in_word (D : DefOk K mg "save_in_word" (top 51)) (G : Gb mg) (c_number_in : C8.Cal P w K mg base 1 "number_in" (Spv p_number_in) []) (c_is_save_name : C8.Cal P w K mg base 3 "is_save_name" (Spv (p_is_save_name (K := K))) []) : C8.Cal P w K mg base 4 "save_in_word" (Spd K p_save_in_word) [] := cal_of D S_save_in_word B_save_in_word (fun vs H Q E h => by obtain ⟨v, ⟨o, rfl, _⟩, _⟩ := h; rfl) fun f cdv A outer s H vs Q E hr h => by
  refine ⟨_, (pss_cons (ps_set (i := 1) S_save_in_word.nd rfl (by first | exact Or.inl rfl | exact Or.inr rfl) (pe_callTy call_tuple_of (by rfl) G.f_tuple boot_tuple (pa_cons (pe_lc (own := [("part", 2)]) (g := gName 2) (tt := tYes) rfl S_save_in_word.nd (pi_list (pe_split (pv 0) pe_str)) (blkOk_by (N := N_save_in_word) (sc := defScope (top 51)) (by decide +kernel)) (fun _ _ _ _ _ => pg_name (i := 2) S_save_in_word.nd rfl (Or.inl rfl)) (fun _ _ _ _ _ => pts_nil) (fun _ _ _ _ _ => (C8.pe_c c_number_in hr (by decide) (by rfl) (pa_cons (pv 2) (pa_cons (C8.pe_gc (by rfl) G.c_MAX_CELL) pa_nil))))) pa_nil)))
  (pss_one (ps_ret (pe_ifExp (pt_val (C8.pe_c c_is_save_name hr (by decide) (by rfl) (pa_cons (pv 1) pa_nil))) (pv 1) pe_non)))), ?_⟩
  obtain ⟨_, ⟨w, rfl, hz, rfl⟩, k⟩ := h
  have hm := sv_save (w := w)
  refine q_asgU (xs := (svNum w).map oV) (eu_tupL ?_) fun p H1 hp e1 h1 => ?_
  · exact el_eq (el_seqN (l := TL.spl [46] 0 [] w) (val := fun p => V.str (Mi.S p)) (fun _ => true) (fun p => oV (Mi.num 5 996 p)) (el_split (ev_var rfl) ev_c (by decide) (by omega)) (by have := spl_many (c := 46) (w := w); omega) (fun _ => rfl) (fun _ _ _ _ => et_yes) fun c hc _ H2 e2 => ev_cal (ea2 (ev_var rfl) ev_c) fun _ _ => ⟨c, 996, rfl, by have := spl_part hc; omega, rfl⟩) made_map
  · refine s_retD (ed_if (b := svOk (svNum w)) (et_B (ev_cal (ea1 (ev_var rfl)) fun H2 e2 => ⟨p, svNum w, rfl, st_of (e2 p _ h1), by
      have := spl_many (c := 46) (w := w)
      simp only [List.length_map]
      omega, rfl⟩)) (fun hb => ?_) fun hb => ?_) fun x H2 e2 hx => k x H2 (e1.trans e2) hx
    · rw [if_pos hb] at hm
      obtain ⟨a, b, h2, h3⟩ := hm
      rw [h3]
      rw [h2] at h1
      exact ed_var rfl (.tup (st_of h1) (dtAll_ints [a, b]))
    · rw [if_neg (by rw [hb]; decide)] at hm
      rw [hm]
      exact ed_of ev_c .non
/-! ### cells_in_word -/
def clD (o : Option (List Nat)) : PyData := oD (o.map Mi.dC)
theorem any_none (os : List (Option Nat)) : inV .non (os.map oV) = os.any fun o => o.isNone := by
  unfold inV
  rw [List.any_map]
  congr 1
  funext o
  cases o <;> rfl
theorem flat_oV (os : List (Option Nat)) : (os.map oV).all flatV = true := by
  rw [List.all_map, List.all_eq_true]
  intro o _
  cases o <;> rfl
def p_cells_in_word : List V → Hp → PyData → Prop := fun vs _ d => ∃ (w : Mi.Tx), vs = [.str (Mi.S w)] ∧ w.length ≤ 10000 ∧ d = clD (Mi.cells w)
abbrev N_cells_in_word : List Str := ["word", "found", "part"]
theorem S_cells_in_word : FnScope N_cells_in_word ["word"] (defScope (top 52)) := ⟨rfl, rfl, rfl, by decide +kernel, rfl, by decide +kernel, by decide +kernel⟩
theorem B_cells_in_word (kV doc pm : Value) (an : Option Addr) (cdv ct : Value) (us : List Value) (hl : us.length = (["word"] : List Str).length) : bindArgs (PySem.W.fnOf "cells_in_word" "cells_in_word" (defArgs (top 52)) (defBody (top 52)) (defScope (top 52)) .none kV doc pm an cdv ct) ⟨us, []⟩ = pure ((["word"] : List Str).zip us) := match us, hl with | [_], _ => rfl
theorem c_cells_in_word (D : DefOk K mg "cells_in_word" (top 52)) (G : Gb mg) (c_number_in : C8.Cal P w K mg base 1 "number_in" (Spv p_number_in) []) : C8.Cal P w K mg base 2 "cells_in_word" (Spd K p_cells_in_word) [] := cal_of D S_cells_in_word B_cells_in_word (fun vs H Q E h => by obtain ⟨v, ⟨o, rfl, _⟩, _⟩ := h; rfl) fun f cdv A outer s H vs Q E hr h => by
  refine ⟨_, (pss_cons (ps_if (pt_cmpR op_eq (pv 0) (C8.pe_gc (by rfl) G.c_NOTHING) (nomark _)) (pss_one (ps_ret (pe_tup pa_nil))) pss_nil)
  (pss_cons (ps_set (i := 1) S_cells_in_word.nd rfl (by first | exact Or.inl rfl | exact Or.inr rfl) (pe_callTy call_tuple_of (by rfl) G.f_tuple boot_tuple (pa_cons (pe_lc (own := [("part", 2)]) (g := gName 2) (tt := tYes) rfl S_cells_in_word.nd (pi_list (pe_split (pv 0) pe_str)) (blkOk_by (N := N_cells_in_word) (sc := defScope (top 52)) (by decide +kernel)) (fun _ _ _ _ _ => pg_name (i := 2) S_cells_in_word.nd rfl (Or.inl rfl)) (fun _ _ _ _ _ => pts_nil) (fun _ _ _ _ _ => (C8.pe_c c_number_in hr (by decide) (by rfl) (pa_cons (pv 2) (pa_cons (C8.pe_gc (by rfl) G.c_MAX_CELL) pa_nil))))) pa_nil)))
  (pss_one (ps_ret (pe_ifExp (pt_cmpR op_in_seq pe_non (pv 1) (by with_unfolding_all rfl)) pe_non (pv 1)))))), ?_⟩
  obtain ⟨_, ⟨w, rfl, hz, rfl⟩, k⟩ := h
  have hc0 : Mi.cells w = if w = [45] then some [] else Mi.somes (clNum w) := rfl
  refine q_when (et_op (ev_var rfl) ev_c (rv_eqS (b := [45]))) (fun hb H1 e1 => ?_) (fun hb H1 e1 => ?_)
  · rw [if_pos (of_decide_eq_true hb)] at hc0
    rw [hc0] at k
    exact s_retD (ed_tupA (xs := []) (eu_tup ea_nil (by decide)) .nil) fun x H2 e2 hx => k x H2 (e1.trans e2) hx
  · rw [if_neg (of_decide_eq_false hb)] at hc0
    have hm := some_cells (clNum w)
    refine q_asgU (xs := (clNum w).map oV) (eu_tupL ?_) fun p H2 hp e2 h2 => ?_
    · exact el_eq (el_seqN (l := TL.spl [44] 0 [] w) (val := fun p => V.str (Mi.S p)) (fun _ => true) (fun p => oV (Mi.num 5 996 p)) (el_split (ev_var rfl) ev_c (by decide) (by omega)) (by have := spl_many (c := 44) (w := w); omega) (fun _ => rfl) (fun _ _ _ _ => et_yes) fun c hc _ H2 e2 => ev_cal (ea2 (ev_var rfl) ev_c) fun _ _ => ⟨c, 996, rfl, by have := spl_part hc; omega, rfl⟩) made_map
    · refine s_retD (ed_if (b := (clNum w).any fun o => o.isNone) (et_is (et_op ev_c (ev_var rfl) (rv_isT (st_of h2) rfl (flat_oV _))) (any_none _)) (fun hb => ?_) fun hb => ?_) fun x H3 e3 hx => k x H3 (e1.trans (e2.trans e3)) hx
      · rw [if_pos hb] at hm
        rw [hc0, hm]
        exact ed_of ev_c .non
      · rw [if_neg (by rw [hb]; decide)] at hm
        obtain ⟨cs, h3, h4⟩ := hm
        rw [hc0, h3]
        rw [h4, map_oV] at h2
        exact ed_var rfl (dt_cells (st_of h2))
/-! ### part_in -/
def fN : Nat → Mi.Tx
  | 0 => [110, 97, 109, 101]
  | 1 => [115, 97, 118, 101]
  | 2 => [110, 101, 119]
  | 3 => [112, 108, 97, 99, 101]
  | _ => [97, 116]
theorem part_0 {w : Mi.Tx} : Mi.part 0 w = if Mi.isNm w = true then some (Mi.dS w) else none := if_pos rfl
theorem part_1 {w : Mi.Tx} : Mi.part 1 w = (Mi.save w).map fun p => .tuple [Mi.dI p.1, Mi.dI p.2] := (if_neg (by decide)).trans (if_pos rfl)
theorem part_2 {w : Mi.Tx} : Mi.part 2 w = (Mi.cells w).bind fun cs => if cs.length ≤ 48 then some (Mi.dC cs) else none := (if_neg (by decide)).trans ((if_neg (by decide)).trans (if_pos rfl))
theorem part_3 {w : Mi.Tx} : Mi.part 3 w = (Mi.num 5 996 w).map Mi.dI := (if_neg (by decide)).trans ((if_neg (by decide)).trans ((if_neg (by decide)).trans rfl))
theorem part_4 {w : Mi.Tx} : Mi.part 4 w = (Mi.num 5 995 w).map Mi.dI := (if_neg (by decide)).trans ((if_neg (by decide)).trans ((if_neg (by decide)).trans rfl))
theorem dt_oV {H : Hp} (o : Option Nat) : Dt K H (oV o) (oD (o.map Mi.dI)) := by
  cases o with
  | none => exact .non
  | some n => exact .int _
/-- a form's word is another word -/
theorem et_form {σ : L2.St} {H : Hp} {ta : TE} {f : Nat} {c : Mi.Tx} {b : Bool} (h : Ev ta σ H (.str (Mi.S (fN f)))) (e : decide (fN f = c) = b) : EvT (tTest (tOp rEq ta (tC (.str (Mi.S c))))) σ H b := et_is (et_op h ev_c rv_eqS) e
def p_part_in : List V → Hp → PyData → Prop := fun vs _ d => ∃ (f : Nat) (w : Mi.Tx), vs = [.str (Mi.S (fN f)), .str (Mi.S w)] ∧ f ≤ 4 ∧ w.length ≤ 10000 ∧ d = oD (Mi.part f w)
abbrev N_part_in : List Str := ["form", "word", "found"]
theorem S_part_in : FnScope N_part_in ["form", "word"] (defScope (top 53)) := ⟨rfl, rfl, rfl, by decide +kernel, rfl, by decide +kernel, by decide +kernel⟩
theorem B_part_in (kV doc pm : Value) (an : Option Addr) (cdv ct : Value) (us : List Value) (hl : us.length = (["form", "word"] : List Str).length) : bindArgs (PySem.W.fnOf "part_in" "part_in" (defArgs (top 53)) (defBody (top 53)) (defScope (top 53)) .none kV doc pm an cdv ct) ⟨us, []⟩ = pure ((["form", "word"] : List Str).zip us) := match us, hl with | [_, _], _ => rfl
/-- the cells, while there are not too many -/
theorem fewD (o : Option (List Nat)) : (oD (o.bind fun cs => if cs.length ≤ 48 then some (Mi.dC cs) else none)) = match o with
  | none => .none
  | some cs => if cs.length ≤ 48 then Mi.dC cs else .none := by
  cases o with
  | none => rfl
  | some cs =>
    show oD (if cs.length ≤ 48 then some (Mi.dC cs) else none) = if cs.length ≤ 48 then Mi.dC cs else .none
    by_cases c : cs.length ≤ 48
    · rw [if_pos c, if_pos c] <;> rfl
    · rw [if_neg c, if_neg c] <;> rfl
theorem c_part_in (D : DefOk K mg "part_in" (top 53)) (G : Gb mg) (c_number_in : C8.Cal P w K mg base 1 "number_in" (Spv p_number_in) []) (c_is_name : C8.Cal P w K mg base 1 "is_name" (Spv p_is_name) []) (c_save_in_word : C8.Cal P w K mg base 4 "save_in_word" (Spd K p_save_in_word) []) (c_cells_in_word : C8.Cal P w K mg base 2 "cells_in_word" (Spd K p_cells_in_word) []) : C8.Cal P w K mg base 5 "part_in" (Spd K p_part_in) [] := cal_of D S_part_in B_part_in (fun vs H Q E h => by obtain ⟨v, ⟨f, o, rfl, _⟩, _⟩ := h; rfl) fun f cdv A outer s H vs Q E hr h => by
  refine ⟨_, (pss_cons (ps_if (pt_cmpR op_eq (pv 0) (C8.pe_gc (by rfl) G.c_NAME) (nomark _)) (pss_one (ps_ret (pe_ifExp (pt_val (C8.pe_c c_is_name hr (by decide) (by rfl) (pa_cons (pv 1) pa_nil))) (pv 1) pe_non))) pss_nil)
  (pss_cons (ps_if (pt_cmpR op_eq (pv 0) (C8.pe_gc (by rfl) G.c_SAVE) (nomark _)) (pss_one (ps_ret (C8.pe_c c_save_in_word hr (by decide) (by rfl) (pa_cons (pv 1) pa_nil)))) pss_nil)
  (pss_cons (ps_if (pt_cmpR op_eq (pv 0) (C8.pe_gc (by rfl) G.c_NEW) (nomark _)) (pss_cons (ps_set (i := 2) S_part_in.nd rfl (by first | exact Or.inl rfl | exact Or.inr rfl) (C8.pe_c c_cells_in_word hr (by decide) (by rfl) (pa_cons (pv 1) pa_nil)))
    (pss_one (ps_ret (pe_ifExp ((pw_and (pt_cmpR op_notN (pv 2) pe_non (nomark _)) (pw_and1 (pt_cmpR op_le (pe_callB call_len_seq (by rfl) G.f_len boot_len (pa_cons (pv 2) pa_nil)) (C8.pe_gc (by rfl) G.c_MOST_NEW) (nomark _))))).pt (pv 2) pe_non)))) pss_nil)
  (pss_one (ps_ret (C8.pe_c c_number_in hr (by decide) (by rfl) (pa_cons (pv 1) (pa_cons (pe_ifExp (pt_cmpR op_eq (pv 0) (C8.pe_gc (by rfl) G.c_PLACE) (nomark _)) (C8.pe_gc (by rfl) G.c_MAX_CELL) (C8.pe_gc (by rfl) G.c_MOST_AT_texts)) pa_nil)))))))), ?_⟩
  obtain ⟨_, ⟨f, w, rfl, hf, hz, rfl⟩, k⟩ := h
  have hc : f = 0 ∨ f = 1 ∨ f = 2 ∨ f = 3 ∨ f = 4 := by omega
  rcases hc with rfl | rfl | rfl | rfl | rfl
  · rw [part_0] at k
    refine q_when (et_form (b := true) (ev_var rfl) rfl) (fun _ H1 e1 => ?_) (fun h => nomatch h)
    refine s_retD (ed_if (et_B (ev_cal (ea1 (ev_var rfl)) fun _ _ => ⟨w, rfl, by omega, rfl⟩)) (fun hb => ?_) fun hb => ?_) fun x H2 e2 hx => k x H2 (e1.trans e2) hx
    · rw [if_pos hb]
      exact ed_var rfl (.str _)
    · rw [if_neg (by rw [hb]; decide)]
      exact ed_of ev_c .non
  · rw [part_1] at k
    refine q_when (et_form (b := false) (ev_var rfl) rfl) (fun h => nomatch h) (fun _ H1 e1 => ?_)
    refine q_when (et_form (b := true) (ev_var rfl) rfl) (fun _ H2 e2 => ?_) (fun h => nomatch h)
    exact s_retD (ed_cal (ea1 (ev_var rfl)) fun _ _ => ⟨w, rfl, hz, rfl⟩) fun x H3 e3 hx => k x H3 (e1.trans (e2.trans e3)) hx
  · rw [part_2, fewD] at k
    refine q_when (et_form (b := false) (ev_var rfl) rfl) (fun h => nomatch h) (fun _ H1 e1 => ?_)
    refine q_when (et_form (b := false) (ev_var rfl) rfl) (fun h => nomatch h) (fun _ H2 e2 => ?_)
    refine q_when (et_form (b := true) (ev_var rfl) rfl) (fun _ H3 e3 => ?_) (fun h => nomatch h)
    refine q_asgD (K := K) (ed_cal (ea1 (ev_var rfl)) fun _ _ => ⟨w, rfl, hz, rfl⟩) fun x H4 e4 hx => ?_
    have e : Ex H H4 := e1.trans (e2.trans (e3.trans e4))
    cases hcl : Mi.cells w with
    | none =>
      rw [hcl] at k hx
      have h0 := Dt.non_inv hx
      subst h0
      exact s_retD (ed_if (et_and (a := false) (b := false) (et_op (ev_var rfl) ev_c rv_notN) fun h => nomatch h) (fun h => nomatch h) fun _ => ed_of ev_c .non) fun x H5 e5 hx => k x H5 (e.trans e5) hx
    | some cs =>
      rw [hcl] at k hx
      change ∀ (x : V) (H' : Hp), Ex H H' → Dt K H' x (if cs.length ≤ 48 then Mi.dC cs else .none) → Q x H' at k
      obtain ⟨a, rfl, hs⟩ := Dt.cells_inv hx
      refine s_retD (ed_if (b := decide (cs.length ≤ 48)) (et_is (et_and (a := true) (et_op (ev_var rfl) ev_c rv_notN) fun _ => et_op (ev_lenT (ev_var rfl) hs) ev_c rv_I0) ?_) (fun hb => ?_) fun hb => ?_) fun x H5 e5 hx => k x H5 (e.trans e5) hx
      · rw [List.length_map, Bool.true_and]
        exact decide_eq_decide.mpr (by omega)
      · rw [if_pos (of_decide_eq_true hb)]
        exact ed_var rfl (dt_cells hs)
      · rw [if_neg (of_decide_eq_false hb)]
        exact ed_of ev_c .non
  · rw [part_3] at k
    refine q_when (et_form (b := false) (ev_var rfl) rfl) (fun h => nomatch h) (fun _ H1 e1 => ?_)
    refine q_when (et_form (b := false) (ev_var rfl) rfl) (fun h => nomatch h) (fun _ H2 e2 => ?_)
    refine q_when (et_form (b := false) (ev_var rfl) rfl) (fun h => nomatch h) (fun _ H3 e3 => ?_)
    exact s_retD (ed_of (ev_cal (ea2 (ev_var rfl) (ev_if (b := true) (et_form (ev_var rfl) rfl) (fun _ => ev_c) fun h => nomatch h)) fun _ _ => ⟨w, 996, rfl, by omega, rfl⟩) (dt_oV _)) fun x H4 e4 hx => k x H4 (e1.trans (e2.trans (e3.trans e4))) hx
  · rw [part_4] at k
    refine q_when (et_form (b := false) (ev_var rfl) rfl) (fun h => nomatch h) (fun _ H1 e1 => ?_)
    refine q_when (et_form (b := false) (ev_var rfl) rfl) (fun h => nomatch h) (fun _ H2 e2 => ?_)
    refine q_when (et_form (b := false) (ev_var rfl) rfl) (fun h => nomatch h) (fun _ H3 e3 => ?_)
    exact s_retD (ed_of (ev_cal (ea2 (ev_var rfl) (ev_if (b := false) (et_form (ev_var rfl) rfl) (fun h => nomatch h) fun _ => ev_c)) fun _ _ => ⟨w, 995, rfl, by omega, rfl⟩) (dt_oV _)) fun x H4 e4 hx => k x H4 (e1.trans (e2.trans (e3.trans e4))) hx
end
end K9
set_option Elab.async false
set_option linter.all false
set_option maxRecDepth 100000
set_option maxHeartbeats 4000000
namespace K9
open PySem PySem.Spec PyProof.Rows L2 Evl
/-! ### plain signs -/
def Asc (w : Mi.Tx) : Prop := ∀ c ∈ w, c < 128
theorem spl_mem {s : Nat} : ∀ (w acc p : Mi.Tx), p ∈ TL.spl [s] 0 acc w → ∀ c ∈ p, c ∈ acc ∨ c ∈ w
  | [], acc, p, h, c, hc => by
    rw [TL.spl_nil] at h
    rw [List.mem_singleton.mp h] at hc
    exact .inl hc
  | d :: r, acc, p, h, c, hc => by
    by_cases hd : TL.pre [s] (d :: r) = true
    · rw [TL.spl_hit hd] at h
      rcases List.mem_cons.mp h with e | h
      · rw [e] at hc
        exact .inl hc
      · rcases spl_mem r [] p h c hc with q | q
        · cases q
        · exact .inr (List.mem_cons_of_mem _ q)
    · rw [TL.spl_miss ((Bool.not_eq_true _).mp hd)] at h
      rcases spl_mem r _ p h c hc with q | q
      · rcases List.mem_append.mp q with q | q
        · exact .inl q
        · rw [List.mem_singleton.mp q]
          exact .inr List.mem_cons_self
      · exact .inr (List.mem_cons_of_mem _ q)
theorem Asc.spl {s : Nat} {w p : Mi.Tx} (h : Asc w) (hp : p ∈ TL.spl [s] 0 [] w) : Asc p := fun c hc => by
  rcases spl_mem w [] p hp c hc with q | q
  · cases q
  · exact h c q
theorem Asc.ok {w : Mi.Tx} (h : Asc w) : PyData.strOk (Mi.S w) = true := by
  unfold PyData.strOk
  rw [← Array.all_toList, List.all_eq_true]
  intro c hc
  have := h c hc
  exact decide_eq_true (by omega)
theorem lay_strs : ∀ {ws : List Mi.Tx}, (∀ p ∈ ws, Asc p) → PyData.canLayAll0 (ws.map Mi.dS) = true ∧ PyData.depthAll (ws.map Mi.dS) = 0
  | [], _ => ⟨rfl, rfl⟩
  | p :: ws, h => by
    have ih := lay_strs (ws := ws) fun q hq => h q (List.mem_cons_of_mem _ hq)
    have hp := (h p List.mem_cons_self).ok
    refine ⟨?_, ?_⟩
    · show (PyData.canLay0 (Mi.dS p) && PyData.canLayAll0 (ws.map Mi.dS)) = true
      rw [ih.1, Bool.and_true]
      simpa [Mi.dS, PyData.canLay0] using hp
    · show max (PyData.depth (Mi.dS p)) (PyData.depthAll (ws.map Mi.dS)) = 0
      rw [ih.2]
      simp [Mi.dS, PyData.depth]
theorem sh_strs {ws : List Mi.Tx} (h : ∀ p ∈ ws, Asc p) : SeqAt.shaped (.list (ws.map Mi.dS)) = true := by
  have q := lay_strs h
  unfold SeqAt.shaped
  rw [Bool.and_eq_true]
  refine ⟨by simpa [PyData.canLay0] using q.1, decide_eq_true ?_⟩
  simp only [PyData.depth]
  rw [q.2]
  decide
section
variable {K : PySem.W.Frag} {H : Hp}
abbrev vS (p : Mi.Tx) : V := .str (Mi.S p)
theorem dpA_strs : ∀ (ws : List Mi.Tx), DpAll K H (ws.map vS) (ws.map Mi.dS)
  | [] => .nil
  | p :: ws => .cons (.str _) (dpA_strs ws)
theorem dp_strs {a : Addr} {ws : List Mi.Tx} (h : SqL K H a (ws.map vS)) : Dp K H (.ref a) (.list (ws.map Mi.dS)) := .lst h (dpA_strs ws)
theorem eqv_nil (ds : List PyData) : PyData.eqv (.list ds) (.list []) = ds.isEmpty := by
  cases ds <;> simp [PyData.eqv, PyData.eqvAll]
section
variable {σ : L2.St} {ta : TE}
theorem ev_neNil {ws : List Mi.Tx} (h : EvL ta σ H (ws.map vS)) (ha : ∀ p ∈ ws, Asc p) : Ev (tOp (rNeD K) ta (tLst tNil)) σ H (.bl (!ws.isEmpty)) :=
  ev_opLL h (el_lst ea_nil (by decide)) fun p q H1 hp hq e => rv_val fun H2 e2 Q k => ⟨_, _, dp_strs (sq_of (e2 p _ hp)), dp_strs (ws := []) (sq_of (e2 q _ hq)), sh_strs ha, sh_strs (ws := []) (fun _ h => by cases h), by
    rw [show ([] : List Mi.Tx).map Mi.dS = [] from rfl, eqv_nil, List.isEmpty_map]
    exact k⟩
theorem ev_eqNil {ws : List Mi.Tx} (h : EvL ta σ H (ws.map vS)) (ha : ∀ p ∈ ws, Asc p) : Ev (tOp (rEqD K) ta (tLst tNil)) σ H (.bl ws.isEmpty) :=
  ev_opLL h (el_lst ea_nil (by decide)) fun p q H1 hp hq e => rv_val fun H2 e2 Q k => ⟨_, _, dp_strs (sq_of (e2 p _ hp)), dp_strs (ws := []) (sq_of (e2 q _ hq)), sh_strs ha, sh_strs (ws := []) (fun _ h => by cases h), by
    rw [show ([] : List Mi.Tx).map Mi.dS = [] from rfl, eqv_nil, List.isEmpty_map]
    exact k⟩
end
/-- the signs of w that are not in z -/
def odd (z : Str) (w : Mi.Tx) : List Mi.Tx := (w.filter fun c => !decide (c ∈ z.cps.toList)).map fun c => [c]
theorem odd_made {z : Str} {w : Mi.Tx} : made (fun c => !decide (c ∈ z.cps.toList)) (fun c => .str ⟨#[c]⟩) w = (odd z w).map vS := by
  unfold made odd
  rw [List.map_map] <;> rfl
theorem odd_asc {z : Str} {w : Mi.Tx} (h : Asc w) : ∀ p ∈ odd z w, Asc p := fun p hp => by
  obtain ⟨c, hc, rfl⟩ := List.mem_map.mp hp
  intro d hd
  rw [List.mem_singleton.mp hd]
  exact h c (List.mem_filter.mp hc).1
theorem odd_nil {z : Str} {w : Mi.Tx} : (odd z w).isEmpty = w.all fun c => decide (c ∈ z.cps.toList) := by
  unfold odd
  rw [List.isEmpty_map]
  induction w with
  | nil => rfl
  | cons c w ih =>
    rw [List.filter_cons, List.all_cons, ← ih]
    cases decide (c ∈ z.cps.toList) <;> rfl
end
/-- an int, -1 for none -/
def lV : Option Nat → V
  | none => .int (-1)
  | some n => vI n
section
variable {P : Program} {w : World} {K : PySem.W.Frag} {mg : Str → Option Value} {base : Heap}
/-! ### _law_number -/
def p_law_number : List V → Hp → V → Prop := fun vs _ v => ∃ (w : Mi.Tx) (most : Nat), vs = [.str (Mi.S w), vI most] ∧ w.length ≤ 20000 ∧ Asc w ∧ v = lV (Mi.num 9 most w)
abbrev N__law_number : List Str := ["_law_word", "_law_most", "_law_sign"]
theorem S__law_number : FnScope N__law_number ["_law_word", "_law_most"] (defScope (top 72)) := ⟨rfl, rfl, rfl, by decide +kernel, rfl, by decide +kernel, by decide +kernel⟩
theorem B__law_number (kV doc pm : Value) (an : Option Addr) (cdv ct : Value) (us : List Value) (hl : us.length = (["_law_word", "_law_most"] : List Str).length) : bindArgs (PySem.W.fnOf "_law_number" "_law_number" (defArgs (top 72)) (defBody (top 72)) (defScope (top 72)) .none kV doc pm an cdv ct) ⟨us, []⟩ = pure ((["_law_word", "_law_most"] : List Str).zip us) := match us, hl with | [_, _], _ => rfl
theorem c_law_number (D : DefOk K mg "_law_number" (top 72)) (G : Gb mg) : C8.Cal P w K mg base 1 "_law_number" (Spv p_law_number) [] := cal_of D S__law_number B__law_number (fun vs H Q E h => by obtain ⟨v, ⟨a, o, rfl, _⟩, _⟩ := h; rfl) fun f cdv A outer s H vs Q E hr h => by
  refine ⟨_, (pss_cons (ps_if ((pw_or (pt_cmpR op_eq (pv 0) pe_str (nomark _)) (pw_or (pt_cmpR op_gt (pe_callB call_len_str (by rfl) G.f_len boot_len (pa_cons (pv 0) pa_nil)) pe_int (nomark _)) (pw_or1 (pt_cmpR (op_neD hr.units) (pe_lc (own := [("_law_sign", 2)]) (g := gName 2) rfl S__law_number.nd (pi_str (pv 0)) (blkOk_by (N := N__law_number) (sc := defScope (top 72)) (by decide +kernel)) (fun _ _ _ _ _ => pg_name (i := 2) S__law_number.nd rfl (Or.inl rfl)) (fun _ _ _ _ _ => (pts_one (pt_cmpR op_notIn_sign (pv 2) pe_str (by with_unfolding_all rfl)))) (fun _ _ _ _ _ => (pv 2))) (pe_lst pa_nil) (nomark _)))))).pt (pss_one (ps_ret (pe_un un_neg pe_int))) pss_nil)
  (pss_one (ps_ret (pe_ifExp ((pw_and (pt_cmpR op_eq (pe_callTy call_str_int (by rfl) G.f_str boot_str (pa_cons (pe_callTy call_int_str (by rfl) G.f_int boot_int (pa_cons (pv 0) pa_nil)) pa_nil)) (pv 0) (nomark _)) (pw_and1 (pt_cmpR op_le (pe_callTy call_int_str (by rfl) G.f_int boot_int (pa_cons (pv 0) pa_nil)) (pv 1) (nomark _))))).pt (pe_callTy call_int_str (by rfl) G.f_int boot_int (pa_cons (pv 0) pa_nil)) (pe_un un_neg pe_int))))), ?_⟩
  obtain ⟨_, ⟨w, most, rfl, hz, ha, rfl⟩, k⟩ := h
  have k' : ∀ {v : V} {H1 : Hp}, Ex H H1 → lV (Mi.num 9 most w) = v → ∀ H2, Ex H1 H2 → Q v H2 := fun {b H1} e1 hb H2 e2 => by
    rw [← hb]
    exact k H2 (e1.trans e2)
  refine q_when (b := decide (w = []) || (decide (9 < w.length) || !Mi.allFig w)) (et_is (et_or (et_op (ev_var rfl) ev_c (rv_eqS (b := []))) fun _ => et_or (et_op (ev_lenS (w := w) (ev_var rfl) (by omega)) ev_c rv_I0) fun _ => et_test (ev_neNil (ws := odd Mi.figs w) (el_eq (el_str (fun c => !decide (c ∈ Mi.figs.cps.toList)) (fun c => .str ⟨#[c]⟩) (ev_var rfl) (by omega) (fun _ => rfl) (fun c hc H2 e2 => et_op (ev_var rfl) ev_c (rv_val fun H3 e3 Q q => ⟨c, Mi.figs, rfl, rfl, q⟩)) fun c hc _ H2 e2 => ev_var rfl) odd_made) (odd_asc ha))) ?_) (fun hb H1 e1 => s_ret (ev_un ev_c ru_neg) (k' e1 ?_)) (fun hb H1 e1 => ?_)
  · rw [show decide ((9 : Int) < (w.length : Int)) = decide (9 < w.length) from decide_eq_decide.mpr (by omega), odd_nil] <;> rfl
  · have : Mi.numOk 9 most w = false := by
      unfold Mi.numOk
      rw [Bool.or_eq_true, Bool.or_eq_true, decide_eq_true_iff, decide_eq_true_iff, Bool.not_eq_true'] at hb
      rcases hb with h | h | h
      · subst h; rfl
      · rw [decide_eq_false (by omega)]; simp
      · rw [h]; simp
    unfold Mi.num
    rw [this] <;> rfl
  · rw [Bool.or_eq_false_iff, Bool.or_eq_false_iff, decide_eq_false_iff_not, decide_eq_false_iff_not, Bool.not_eq_false'] at hb
    obtain ⟨h1, h2, h3⟩ := hb
    have iw : ∀ H2, Ev _ (start N__law_number [.str (Mi.S w), vI most]) H2 (vI (Mi.val w)) := fun H2 => ev_intS (te := tVar 0) (ev_var rfl) h1 (by omega) h3
    have e0 : Mi.num 9 most w = if (decide (TL.numL (Mi.val w) = w) && decide (Mi.val w ≤ most)) = true then some (Mi.val w) else none := by
      unfold Mi.num Mi.numOk
      have e1 : w.isEmpty = false := by
        cases w with
        | nil => exact absurd rfl h1
        | cons _ _ => rfl
      rw [e1, decide_eq_true (show w.length ≤ 9 by omega), h3] <;> rfl
    refine s_ret (ev_if (b := decide (TL.numL (Mi.val w) = w) && decide (Mi.val w ≤ most)) (et_is (et_and (et_op (ev_strI (iw _) (val_small (by omega) h3)) (ev_var rfl) rv_eqS) fun _ => et_op (iw _) (ev_var rfl) rv_I0) ?_) (v := lV (Mi.num 9 most w)) (fun hb => ?_) fun hb => ?_) (fun H2 e2 => k H2 (e1.trans e2))
    · congr 1
      exact decide_eq_decide.mpr (by unfold vI at *; omega)
    · rw [e0, if_pos hb]
      exact iw _
    · rw [e0, if_neg (by rw [hb]; decide)]
      exact ev_un ev_c ru_neg
/-! ### _law_is_name -/
def p_law_is_name : List V → Hp → V → Prop := fun vs _ v => ∃ (w : Mi.Tx), vs = [.str (Mi.S w)] ∧ w.length ≤ 20000 ∧ Asc w ∧ v = .bl (Mi.isNm w)
abbrev N__law_is_name : List Str := ["_law_word", "_law_sign"]
theorem S__law_is_name : FnScope N__law_is_name ["_law_word"] (defScope (top 73)) := ⟨rfl, rfl, rfl, by decide +kernel, rfl, by decide +kernel, by decide +kernel⟩
theorem B__law_is_name (kV doc pm : Value) (an : Option Addr) (cdv ct : Value) (us : List Value) (hl : us.length = (["_law_word"] : List Str).length) : bindArgs (PySem.W.fnOf "_law_is_name" "_law_is_name" (defArgs (top 73)) (defBody (top 73)) (defScope (top 73)) .none kV doc pm an cdv ct) ⟨us, []⟩ = pure ((["_law_word"] : List Str).zip us) := match us, hl with | [_], _ => rfl
theorem c_law_is_name (D : DefOk K mg "_law_is_name" (top 73)) (G : Gb mg) : C8.Cal P w K mg base 1 "_law_is_name" (Spv p_law_is_name) [] := cal_of D S__law_is_name B__law_is_name (fun vs H Q E h => by obtain ⟨v, ⟨o, rfl, _⟩, _⟩ := h; rfl) fun f cdv A outer s H vs Q E hr h => by
  refine ⟨_, (pss_one (ps_ret (pe_and (pe_chain op_lt op_lt pe_int (pe_callB call_len_str (by rfl) G.f_len boot_len (pa_cons (pv 0) pa_nil)) pe_int) (pe_one (pe_cmpR (op_eqD hr.units) (pe_lc (own := [("_law_sign", 1)]) (g := gName 1) rfl S__law_is_name.nd (pi_str (pv 0)) (blkOk_by (N := N__law_is_name) (sc := defScope (top 73)) (by decide +kernel)) (fun _ _ _ _ _ => pg_name (i := 1) S__law_is_name.nd rfl (Or.inl rfl)) (fun _ _ _ _ _ => (pts_one (pt_cmpR op_notIn_sign (pv 1) pe_str (by with_unfolding_all rfl)))) (fun _ _ _ _ _ => (pv 1))) (pe_lst pa_nil) (nomark _)))))), ?_⟩
  obtain ⟨_, ⟨w, rfl, hz, ha, rfl⟩, k⟩ := h
  refine s_ret (ev_is (ev_andV (ev_chain ev_c (ev_lenS (w := w) (ev_var rfl) (by omega)) ev_c rv_I0 rv_I0) fun _ => ev_eqNil (ws := odd Mi.lets w) (el_eq (el_str (fun c => !decide (c ∈ Mi.lets.cps.toList)) (fun c => .str ⟨#[c]⟩) (ev_var rfl) (by omega) (fun _ => rfl) (fun c hc H2 e2 => et_op (ev_var rfl) ev_c (rv_val fun H3 e3 Q q => ⟨c, Mi.lets, rfl, rfl, q⟩)) fun c hc _ H2 e2 => ev_var rfl) odd_made) (odd_asc ha)) ?_) k
  unfold Mi.isNm
  rw [show decide ((0 : Int) < (w.length : Int)) = decide (1 ≤ w.length) from decide_eq_decide.mpr (by omega), show decide ((w.length : Int) < 5) = decide (w.length ≤ 4) from decide_eq_decide.mpr (by omega), odd_nil] <;> rfl
/-! ### _law_word_cells -/
theorem any_neg (os : List (Option Nat)) : inV (.int (-1)) (os.map lV) = os.any fun o => o.isNone := by
  unfold inV
  rw [List.any_map]
  congr 1
  funext o
  cases o with
  | none => rfl
  | some n =>
    show eqV (.int (n : Int)) (.int (-1)) = false
    simp [eqV]
theorem flat_lV (os : List (Option Nat)) : (os.map lV).all flatV = true := by
  rw [List.all_map, List.all_eq_true]
  intro o _
  cases o <;> rfl
theorem map_lV {cs : List Nat} : (cs.map some).map lV = cs.map vI := by rw [List.map_map] <;> rfl
theorem num95 {w : Mi.Tx} {s : Nat} : (TL.spl [s] 0 [] w).map (Mi.num 9 996) = (TL.spl [s] 0 [] w).map (Mi.num 5 996) := List.map_congr_left fun p _ => Mi.num_lim (by decide) (by decide) (by decide) p
def p_law_word_cells : List V → Hp → PyData → Prop := fun vs _ d => ∃ (w : Mi.Tx), vs = [.str (Mi.S w)] ∧ w.length ≤ 10000 ∧ Asc w ∧ d = clD (Mi.cells w)
abbrev N__law_word_cells : List Str := ["_law_word", "_law_found", "_law_part_here"]
theorem S__law_word_cells : FnScope N__law_word_cells ["_law_word"] (defScope (top 74)) := ⟨rfl, rfl, rfl, by decide +kernel, rfl, by decide +kernel, by decide +kernel⟩
theorem B__law_word_cells (kV doc pm : Value) (an : Option Addr) (cdv ct : Value) (us : List Value) (hl : us.length = (["_law_word"] : List Str).length) : bindArgs (PySem.W.fnOf "_law_word_cells" "_law_word_cells" (defArgs (top 74)) (defBody (top 74)) (defScope (top 74)) .none kV doc pm an cdv ct) ⟨us, []⟩ = pure ((["_law_word"] : List Str).zip us) := match us, hl with | [_], _ => rfl
theorem c_law_word_cells (D : DefOk K mg "_law_word_cells" (top 74)) (G : Gb mg) (c__law_number : C8.Cal P w K mg base 1 "_law_number" (Spv p_law_number) []) : C8.Cal P w K mg base 2 "_law_word_cells" (Spd K p_law_word_cells) [] := cal_of D S__law_word_cells B__law_word_cells (fun vs H Q E h => by obtain ⟨v, ⟨o, rfl, _⟩, _⟩ := h; rfl) fun f cdv A outer s H vs Q E hr h => by
  refine ⟨_, (pss_cons (ps_if (pt_cmpR op_eq (pv 0) pe_str (nomark _)) (pss_one (ps_ret (pe_tup pa_nil))) pss_nil)
  (pss_cons (ps_set (i := 1) S__law_word_cells.nd rfl (by first | exact Or.inl rfl | exact Or.inr rfl) (pe_callTy call_tuple_of (by rfl) G.f_tuple boot_tuple (pa_cons (pe_lc (own := [("_law_part_here", 2)]) (g := gName 2) (tt := tYes) rfl S__law_word_cells.nd (pi_list (pe_split (pv 0) pe_str)) (blkOk_by (N := N__law_word_cells) (sc := defScope (top 74)) (by decide +kernel)) (fun _ _ _ _ _ => pg_name (i := 2) S__law_word_cells.nd rfl (Or.inl rfl)) (fun _ _ _ _ _ => pts_nil) (fun _ _ _ _ _ => (C8.pe_c c__law_number hr (by decide) (by rfl) (pa_cons (pv 2) (pa_cons pe_int pa_nil))))) pa_nil)))
  (pss_one (ps_ret (pe_ifExp (pt_cmpR op_in_seq (pe_un un_neg pe_int) (pv 1) (by with_unfolding_all rfl)) pe_non (pv 1)))))), ?_⟩
  obtain ⟨_, ⟨w, rfl, hz, ha, rfl⟩, k⟩ := h
  have hc0 : Mi.cells w = if w = [45] then some [] else Mi.somes (clNum w) := rfl
  refine q_when (et_op (ev_var rfl) ev_c (rv_eqS (b := [45]))) (fun hb H1 e1 => ?_) (fun hb H1 e1 => ?_)
  · rw [if_pos (of_decide_eq_true hb)] at hc0
    rw [hc0] at k
    exact s_retD (ed_tupA (xs := []) (eu_tup ea_nil (by decide)) .nil) fun x H2 e2 hx => k x H2 (e1.trans e2) hx
  · rw [if_neg (of_decide_eq_false hb)] at hc0
    have hm := some_cells (clNum w)
    refine q_asgU (xs := (clNum w).map lV) (eu_tupL ?_) fun p H2 hp e2 h2 => ?_
    · refine el_eq (el_seqN (l := TL.spl [44] 0 [] w) (val := fun p => V.str (Mi.S p)) (fun _ => true) (fun p => lV (Mi.num 9 996 p)) (el_split (ev_var rfl) ev_c (by decide) (by omega)) (by have := spl_many (c := 44) (w := w); omega) (fun _ => rfl) (fun _ _ _ _ => et_yes) fun c hc _ H2 e2 => ev_cal (ea2 (ev_var rfl) ev_c) fun _ _ => ⟨c, 996, rfl, by have := spl_part hc; omega, ha.spl hc, rfl⟩) ?_
      rw [made_map (f := lV), num95]
    · refine s_retD (ed_if (b := (clNum w).any fun o => o.isNone) (et_is (et_op (ev_un ev_c ru_neg) (ev_var rfl) (rv_isT (st_of h2) rfl (flat_lV _))) (any_neg _)) (fun hb => ?_) fun hb => ?_) fun x H3 e3 hx => k x H3 (e1.trans (e2.trans e3)) hx
      · rw [if_pos hb] at hm
        rw [hc0, hm]
        exact ed_of ev_c .non
      · rw [if_neg (by rw [hb]; decide)] at hm
        obtain ⟨cs, h3, h4⟩ := hm
        rw [hc0, h3]
        rw [h4, map_lV] at h2
        exact ed_var rfl (dt_cells (st_of h2))
/-! ### _law_word_save -/
theorem sv_len {w : Mi.Tx} (h : (svNum w).length ≠ 2) : Mi.save w = none := by
  have e : Mi.save w = match svNum w with
    | [some a, some b] => if 1 ≤ a ∧ 1 ≤ b then some (a, b) else none
    | _ => none := rfl
  rw [e]
  generalize svNum w = os at h
  match os, h with
  | [], _ => rfl
  | [x], _ => cases x <;> rfl
  | x :: y :: z :: r, _ => cases x <;> cases y <;> rfl
  | [x, y], h => exact absurd rfl h
theorem sv_two {w : Mi.Tx} {x y : Option Nat} (h : svNum w = [x, y]) : ∃ i j : Int, lV x = .int i ∧ lV y = .int j ∧ if (decide (0 < if j < i then j else i)) = true then ∃ a b, x = some a ∧ y = some b ∧ Mi.save w = some (a, b) else Mi.save w = none := by
  have e : Mi.save w = match svNum w with
    | [some a, some b] => if 1 ≤ a ∧ 1 ≤ b then some (a, b) else none
    | _ => none := rfl
  rw [h] at e
  rw [e]
  cases x with
  | none =>
    cases y with
    | none => exact ⟨-1, -1, rfl, rfl, rfl⟩
    | some b =>
      refine ⟨-1, (b : Int), rfl, rfl, ?_⟩
      rw [if_neg]
      simp only [decide_eq_true_eq]
      split <;> omega
  | some a =>
    cases y with
    | none =>
      refine ⟨(a : Int), -1, rfl, rfl, ?_⟩
      rw [if_neg]
      simp only [decide_eq_true_eq]
      split <;> omega
    | some b =>
      refine ⟨(a : Int), (b : Int), rfl, rfl, ?_⟩
      by_cases c : 1 ≤ a ∧ 1 ≤ b
      · rw [if_pos]
        · exact ⟨a, b, rfl, rfl, if_pos c⟩
        · simp only [decide_eq_true_eq]
          split <;> omega
      · rw [if_neg]
        · exact if_neg c
        · simp only [decide_eq_true_eq]
          split <;> omega
def p_law_word_save : List V → Hp → PyData → Prop := fun vs _ d => ∃ (w : Mi.Tx), vs = [.str (Mi.S w)] ∧ w.length ≤ 10000 ∧ Asc w ∧ d = svD (Mi.save w)
abbrev N__law_word_save : List Str := ["_law_word", "_law_found", "_law_part_here"]
theorem S__law_word_save : FnScope N__law_word_save ["_law_word"] (defScope (top 75)) := ⟨rfl, rfl, rfl, by decide +kernel, rfl, by decide +kernel, by decide +kernel⟩
theorem B__law_word_save (kV doc pm : Value) (an : Option Addr) (cdv ct : Value) (us : List Value) (hl : us.length = (["_law_word"] : List Str).length) : bindArgs (PySem.W.fnOf "_law_word_save" "_law_word_save" (defArgs (top 75)) (defBody (top 75)) (defScope (top 75)) .none kV doc pm an cdv ct) ⟨us, []⟩ = pure ((["_law_word"] : List Str).zip us) := match us, hl with | [_], _ => rfl
theorem c_law_word_save (D : DefOk K mg "_law_word_save" (top 75)) (G : Gb mg) (c__law_number : C8.Cal P w K mg base 1 "_law_number" (Spv p_law_number) []) : C8.Cal P w K mg base 2 "_law_word_save" (Spd K p_law_word_save) [] := cal_of D S__law_word_save B__law_word_save (fun vs H Q E h => by obtain ⟨v, ⟨o, rfl, _⟩, _⟩ := h; rfl) fun f cdv A outer s H vs Q E hr h => by
  refine ⟨_, (pss_cons (ps_set (i := 1) S__law_word_save.nd rfl (by first | exact Or.inl rfl | exact Or.inr rfl) (pe_callTy call_tuple_of (by rfl) G.f_tuple boot_tuple (pa_cons (pe_lc (own := [("_law_part_here", 2)]) (g := gName 2) (tt := tYes) rfl S__law_word_save.nd (pi_list (pe_split (pv 0) pe_str)) (blkOk_by (N := N__law_word_save) (sc := defScope (top 75)) (by decide +kernel)) (fun _ _ _ _ _ => pg_name (i := 2) S__law_word_save.nd rfl (Or.inl rfl)) (fun _ _ _ _ _ => pts_nil) (fun _ _ _ _ _ => (C8.pe_c c__law_number hr (by decide) (by rfl) (pa_cons (pv 2) (pa_cons pe_int pa_nil))))) pa_nil)))
  (pss_one (ps_ret (pe_ifExp ((pw_and (pt_cmpR op_eq (pe_callB call_len_seq (by rfl) G.f_len boot_len (pa_cons (pv 1) pa_nil)) pe_int (nomark _)) (pw_and1 (pt_cmpR op_gt (pe_callB (call_minT rfl) (by rfl) G.f_min boot_min (pa_cons (pv 1) pa_nil)) pe_int (nomark _))))).pt (pv 1) pe_non)))), ?_⟩
  obtain ⟨_, ⟨w, rfl, hz, ha, rfl⟩, k⟩ := h
  refine q_asgU (xs := (svNum w).map lV) (eu_tupL ?_) fun p H1 hp e1 h1 => ?_
  · refine el_eq (el_seqN (l := TL.spl [46] 0 [] w) (val := fun p => V.str (Mi.S p)) (fun _ => true) (fun p => lV (Mi.num 9 996 p)) (el_split (ev_var rfl) ev_c (by decide) (by omega)) (by have := spl_many (c := 46) (w := w); omega) (fun _ => rfl) (fun _ _ _ _ => et_yes) fun c hc _ H2 e2 => ev_cal (ea2 (ev_var rfl) ev_c) fun _ _ => ⟨c, 996, rfl, by have := spl_part hc; omega, ha.spl hc, rfl⟩) ?_
    rw [made_map (f := lV), num95]
  · by_cases hl : (svNum w).length = 2
    · obtain ⟨x, y, hxy⟩ : ∃ x y, svNum w = [x, y] := by
        match svNum w, hl with
        | [x, y], _ => exact ⟨x, y, rfl⟩
      obtain ⟨i, j, hi, hj, hm⟩ := sv_two hxy
      rw [hxy] at h1
      change H1 p = some (.tup [lV x, lV y]) at h1
      have h2 := h1
      rw [hi, hj] at h2
      refine s_retD (ed_if (b := decide (0 < if j < i then j else i)) (et_is (et_and (a := true) (et_is (et_op (ev_lenT (ev_var rfl) (st_of h1)) ev_c (rv_eq rfl)) (by simp)) fun _ => et_op (ev_cb (ea1 (ev_var rfl)) fun H2 Q2 e2 q => ⟨p, i, j, rfl, st_of (e2 p _ h2), q⟩) ev_c rv_I0) (Bool.true_and _)) (fun hb => ?_) fun hb => ?_) fun x H2 e2 hx => k x H2 (e1.trans e2) hx
      · rw [if_pos hb] at hm
        obtain ⟨a, b, rfl, rfl, h3⟩ := hm
        rw [h3]
        exact ed_var rfl (.tup (st_of h1) (dtAll_ints [a, b]))
      · rw [if_neg (by rw [hb]; decide)] at hm
        rw [hm]
        exact ed_of ev_c .non
    · rw [sv_len hl] at k
      refine s_retD (ed_if (b := false) (et_and (a := false) (b := false) (et_is (et_op (ev_lenT (ev_var rfl) (st_of h1)) ev_c (rv_eq rfl)) ?_) fun h => nomatch h) (fun h => nomatch h) fun _ => ed_of ev_c .non) fun x H2 e2 hx => k x H2 (e1.trans e2) hx
      rw [dec_int, List.length_map, beq_eq_false_iff_ne]
      omega
/-! ### _law_part -/
def lN : Nat → Mi.Tx
  | 0 => [110, 97, 109, 101]
  | 1 => [115, 97, 118, 101]
  | 2 => [99, 101, 108, 108, 115]
  | 3 => [112, 108, 97, 99, 101]
  | _ => [97, 116]
theorem et_lform {σ : L2.St} {H : Hp} {ta : TE} {f : Nat} {c : Mi.Tx} {b : Bool} (h : Ev ta σ H (.str (Mi.S (lN f)))) (e : decide (lN f = c) = b) : EvT (tTest (tOp rEq ta (tC (.str (Mi.S c))))) σ H b := et_is (et_op h ev_c rv_eqS) e
def p_law_part : List V → Hp → PyData → Prop := fun vs _ d => ∃ (f : Nat) (w : Mi.Tx), vs = [.str (Mi.S (lN f)), .str (Mi.S w)] ∧ f ≤ 4 ∧ w.length ≤ 10000 ∧ Asc w ∧ d = oD (Mi.part f w)
abbrev N__law_part : List Str := ["_law_form", "_law_word", "_law_number_here", "_law_found"]
theorem S__law_part : FnScope N__law_part ["_law_form", "_law_word"] (defScope (top 76)) := ⟨rfl, rfl, rfl, by decide +kernel, rfl, by decide +kernel, by decide +kernel⟩
theorem B__law_part (kV doc pm : Value) (an : Option Addr) (cdv ct : Value) (us : List Value) (hl : us.length = (["_law_form", "_law_word"] : List Str).length) : bindArgs (PySem.W.fnOf "_law_part" "_law_part" (defArgs (top 76)) (defBody (top 76)) (defScope (top 76)) .none kV doc pm an cdv ct) ⟨us, []⟩ = pure ((["_law_form", "_law_word"] : List Str).zip us) := match us, hl with | [_, _], _ => rfl
theorem ed_lV {σ : L2.St} {H : Hp} {o : Option Nat} {i : Nat} (h : σ[i]? = some (some (lV o))) : ED K (tIf (tTest (tOp (rI0 fun i j => .bl (decide (j ≤ i))) (tVar i) (tC (.int 0)))) (tVar i) (tC .non)) σ H (oD (o.map Mi.dI)) := by
  cases o with
  | none => exact ed_if (b := false) (et_is (et_op (ev_var h) ev_c rv_I0) (by decide)) (fun h => nomatch h) fun _ => ed_of ev_c .non
  | some n => exact ed_if (b := true) (et_is (et_op (ev_var h) ev_c rv_I0) (decide_eq_true (by omega))) (fun _ => ed_var h (.int _)) fun h => nomatch h
theorem c_law_part (D : DefOk K mg "_law_part" (top 76)) (G : Gb mg) (c__law_number : C8.Cal P w K mg base 1 "_law_number" (Spv p_law_number) []) (c__law_is_name : C8.Cal P w K mg base 1 "_law_is_name" (Spv p_law_is_name) []) (c__law_word_save : C8.Cal P w K mg base 2 "_law_word_save" (Spd K p_law_word_save) []) (c__law_word_cells : C8.Cal P w K mg base 2 "_law_word_cells" (Spd K p_law_word_cells) []) : C8.Cal P w K mg base 3 "_law_part" (Spd K p_law_part) [] := cal_of D S__law_part B__law_part (fun vs H Q E h => by obtain ⟨v, ⟨f, o, rfl, _⟩, _⟩ := h; rfl) fun f cdv A outer s H vs Q E hr h => by
  refine ⟨_, (pss_cons (ps_if (pt_cmpR op_eq (pv 0) pe_str (nomark _)) (pss_one (ps_ret (pe_ifExp (pt_val (C8.pe_c c__law_is_name hr (by decide) (by rfl) (pa_cons (pv 1) pa_nil))) (pv 1) pe_non))) pss_nil)
  (pss_cons (ps_if (pt_cmpR op_eq (pv 0) pe_str (nomark _)) (pss_one (ps_ret (C8.pe_c c__law_word_save hr (by decide) (by rfl) (pa_cons (pv 1) pa_nil)))) pss_nil)
  (pss_cons (ps_if (pt_cmpR op_eq (pv 0) pe_str (nomark _)) (pss_cons (ps_set (i := 3) S__law_part.nd rfl (by first | exact Or.inl rfl | exact Or.inr rfl) (C8.pe_c c__law_word_cells hr (by decide) (by rfl) (pa_cons (pv 1) pa_nil)))
    (pss_one (ps_ret (pe_ifExp ((pw_and (pt_cmpR op_notN (pv 3) pe_non (nomark _)) (pw_and1 (pt_cmpR op_lt (pe_callB call_len_seq (by rfl) G.f_len boot_len (pa_cons (pv 3) pa_nil)) pe_int (nomark _))))).pt (pv 3) pe_non)))) pss_nil)
  (pss_cons (ps_set (i := 2) S__law_part.nd rfl (by first | exact Or.inl rfl | exact Or.inr rfl) (C8.pe_c c__law_number hr (by decide) (by rfl) (pa_cons (pv 1) (pa_cons (pe_ifExp (pt_cmpR op_eq (pv 0) pe_str (nomark _)) pe_int pe_int) pa_nil))))
  (pss_one (ps_ret (pe_ifExp (pt_cmpR op_ge (pv 2) pe_int (nomark _)) (pv 2) pe_non))))))), ?_⟩
  obtain ⟨_, ⟨f, w, rfl, hf, hz, ha, rfl⟩, k⟩ := h
  have hc : f = 0 ∨ f = 1 ∨ f = 2 ∨ f = 3 ∨ f = 4 := by omega
  rcases hc with rfl | rfl | rfl | rfl | rfl
  · rw [part_0] at k
    refine q_when (et_lform (b := true) (ev_var rfl) rfl) (fun _ H1 e1 => ?_) (fun h => nomatch h)
    refine s_retD (ed_if (et_B (ev_cal (ea1 (ev_var rfl)) fun _ _ => ⟨w, rfl, by omega, ha, rfl⟩)) (fun hb => ?_) fun hb => ?_) fun x H2 e2 hx => k x H2 (e1.trans e2) hx
    · rw [if_pos hb]
      exact ed_var rfl (.str _)
    · rw [if_neg (by rw [hb]; decide)]
      exact ed_of ev_c .non
  · rw [part_1] at k
    refine q_when (et_lform (b := false) (ev_var rfl) rfl) (fun h => nomatch h) (fun _ H1 e1 => ?_)
    refine q_when (et_lform (b := true) (ev_var rfl) rfl) (fun _ H2 e2 => ?_) (fun h => nomatch h)
    exact s_retD (ed_cal (ea1 (ev_var rfl)) fun _ _ => ⟨w, rfl, hz, ha, rfl⟩) fun x H3 e3 hx => k x H3 (e1.trans (e2.trans e3)) hx
  · rw [part_2, fewD] at k
    refine q_when (et_lform (b := false) (ev_var rfl) rfl) (fun h => nomatch h) (fun _ H1 e1 => ?_)
    refine q_when (et_lform (b := false) (ev_var rfl) rfl) (fun h => nomatch h) (fun _ H2 e2 => ?_)
    refine q_when (et_lform (b := true) (ev_var rfl) rfl) (fun _ H3 e3 => ?_) (fun h => nomatch h)
    refine q_asgD (K := K) (ed_cal (ea1 (ev_var rfl)) fun _ _ => ⟨w, rfl, hz, ha, rfl⟩) fun x H4 e4 hx => ?_
    have e : Ex H H4 := e1.trans (e2.trans (e3.trans e4))
    cases hcl : Mi.cells w with
    | none =>
      rw [hcl] at k hx
      have h0 := Dt.non_inv hx
      subst h0
      exact s_retD (ed_if (et_and (a := false) (b := false) (et_op (ev_var rfl) ev_c rv_notN) fun h => nomatch h) (fun h => nomatch h) fun _ => ed_of ev_c .non) fun x H5 e5 hx => k x H5 (e.trans e5) hx
    | some cs =>
      rw [hcl] at k hx
      change ∀ (x : V) (H' : Hp), Ex H H' → Dt K H' x (if cs.length ≤ 48 then Mi.dC cs else .none) → Q x H' at k
      obtain ⟨a, rfl, hs⟩ := Dt.cells_inv hx
      refine s_retD (ed_if (b := decide (cs.length ≤ 48)) (et_is (et_and (a := true) (et_op (ev_var rfl) ev_c rv_notN) fun _ => et_op (ev_lenT (ev_var rfl) hs) ev_c rv_I0) ?_) (fun hb => ?_) fun hb => ?_) fun x H5 e5 hx => k x H5 (e.trans e5) hx
      · rw [List.length_map, Bool.true_and]
        exact decide_eq_decide.mpr (by omega)
      · rw [if_pos (of_decide_eq_true hb)]
        exact ed_var rfl (dt_cells hs)
      · rw [if_neg (of_decide_eq_false hb)]
        exact ed_of ev_c .non
  · rw [part_3] at k
    refine q_when (et_lform (b := false) (ev_var rfl) rfl) (fun h => nomatch h) (fun _ H1 e1 => ?_)
    refine q_when (et_lform (b := false) (ev_var rfl) rfl) (fun h => nomatch h) (fun _ H2 e2 => ?_)
    refine q_when (et_lform (b := false) (ev_var rfl) rfl) (fun h => nomatch h) (fun _ H3 e3 => ?_)
    refine q_asg (v := lV (Mi.num 5 996 w)) (ev_is (ev_cal (ea2 (ev_var rfl) (ev_if (b := true) (et_lform (ev_var rfl) rfl) (fun _ => ev_c) fun h => nomatch h)) fun _ _ => ⟨w, 996, rfl, by omega, ha, rfl⟩) (congrArg lV (Mi.num_lim (by decide) (by decide) (by decide) w))) fun H4 e4 => ?_
    exact s_retD (ed_lV rfl) fun x H5 e5 hx => k x H5 (e1.trans (e2.trans (e3.trans (e4.trans e5)))) hx
  · rw [part_4] at k
    refine q_when (et_lform (b := false) (ev_var rfl) rfl) (fun h => nomatch h) (fun _ H1 e1 => ?_)
    refine q_when (et_lform (b := false) (ev_var rfl) rfl) (fun h => nomatch h) (fun _ H2 e2 => ?_)
    refine q_when (et_lform (b := false) (ev_var rfl) rfl) (fun h => nomatch h) (fun _ H3 e3 => ?_)
    refine q_asg (v := lV (Mi.num 5 995 w)) (ev_is (ev_cal (ea2 (ev_var rfl) (ev_if (b := false) (et_lform (ev_var rfl) rfl) (fun h => nomatch h) fun _ => ev_c)) fun _ _ => ⟨w, 995, rfl, by omega, ha, rfl⟩) (congrArg lV (Mi.num_lim (by decide) (by decide) (by decide) w))) fun H4 e4 => ?_
    exact s_retD (ed_lV rfl) fun x H5 e5 hx => k x H5 (e1.trans (e2.trans (e3.trans (e4.trans e5)))) hx
end
end K9
set_option Elab.async false
set_option linter.all false
set_option maxRecDepth 100000
set_option maxHeartbeats 4000000
namespace K9
open PySem PySem.Spec PyProof.Rows L2 Evl
/-! ### a written dict whose every key is known -/
structure WDict (K : PySem.W.Frag) (w : World) (a : Addr) (f : Str → Option V) : Prop where
  ex : ∃ es n, KDict K w a es n ∧ ∀ z, RelO (f z) (findBy Value.isStrOf es z)
def rInW (a : Addr) (f : Str → Option V) : R2 := fun x y H Q => ∃ z, x = .str z ∧ y = .ref a ∧ Q (.bl (f z).isSome) H
def rIxW (a : Addr) (f : Str → Option V) : R2 := fun x y H Q => ∃ z v, x = .ref a ∧ y = .str z ∧ f z = some v ∧ Q v H
def tWGet (a : Addr) (f : Str → Option V) (td ty tx : TE) : TE := fun σ H Q => td σ H fun x H1 => x = .ref a ∧ ty σ H1 fun y H2 => tx σ H2 fun z H3 => ∃ k, y = .str k ∧ Q ((f k).getD z) H3
theorem relO_some {o : Option V} {q : Option Value} (h : RelO o q) : o.isSome = q.isSome := by
  cases o <;> cases q <;> first | rfl | exact (False.elim h)
section
variable {X : Cx} {a : Addr} {f : Str → Option V}
theorem op_inW (D : WDict X.K X.w a f) : OpR X (compareOp .In) (rInW a f) := by
  intro pins s σ H x y v u Q I rx ry h
  obtain ⟨es, n, D, hf⟩ := D.ex
  obtain ⟨z, rfl, rfl, q⟩ := h
  obtain ⟨t, rfl⟩ := rx
  cases ry
  refine wpAny_in_of (PySem.strKind_is X.prog X.w z t) D.low (PySem.W.mapOf_K (prog := X.prog) I.kIn D.at_ D.lit) ?_
  rw [← relO_some (hf z)]
  exact ⟨.bl (f z).isSome, H, I.tok _, rfl, q⟩
theorem ix_wd (D : WDict X.K X.w a f) : IxR X (rIxW a f) := by
  intro value slice pins s σ H x y v u Q I rx ry h hs
  obtain ⟨es, n, D, hf⟩ := D.ex
  obtain ⟨z, r, rfl, rfl, e, q⟩ := h
  obtain rfl : v = Value.ref a := rx
  obtain ⟨t, rfl⟩ := ry
  obtain ⟨u0, h1, h2⟩ := RelO.some_of (v := r) (o := findBy Value.isStrOf es z) (by rw [← e]; exact hf z)
  have hm := PySem.W.mapOf_K (prog := X.prog) (w := X.w) I.kIn D.at_ D.lit
  exact tail_any hm.typeIs slot_dict_getitem.lookup (wpAny_getItem_of (strKind_is X.prog X.w z t) hm h1 ⟨r, H, I.tok _, h2, q⟩) hs
theorem pe_wget {o e g : Expr} {td ty tx : TE} {apos cpos : Pos} (D : WDict X.K X.w a f) (ho : PE X o td) (he : PE X e ty) (hf : PE X g tx) (m : M2 X o "get" apos e g cpos) : PE X (.Call (.Attribute o "get" apos) [e, g] [] cpos) (tWGet a f td ty tx) := by
  refine ⟨fun pins s σ H Q I h => ?_⟩
  obtain ⟨es, n, D, hk⟩ := D.ex
  refine wpAny_Call_method m.base m.few m.line PySem.F.plainAttrs_dict PySem.F.slot_dict_get PySem.F.type_dict_get (thn (ho.run pins s σ H _ I h) fun u s1 ⟨x, H1, I1, rx, ex, q1⟩ => ?_)
  subst ex
  obtain rfl : u = Value.ref a := rx
  have hm := PySem.W.mapOf_K (prog := X.prog) (w := X.w) I1.kIn D.at_ D.lit
  refine ⟨hm.typeIs, fun b q => ?_, ?_⟩
  · cases q
    exact ⟨_, I1.kIn _ _ D.at_, rfl⟩
  rw [m.trees]
  refine Calls.callWith_builtin rfl (Calls.evalArgs_plain (Calls.spliced_cons (thn (he.run pins s1 σ H1 _ I1 q1) fun iv s2 ⟨y, H2, I2, ry, q2⟩ =>
    Calls.spliced_cons (thn (hf.run pins s2 σ H2 _ I2 q2) fun fv s3 ⟨z, H3, I3, rz, k, ek, q3⟩ => Calls.spliced_nil ?_))))
  subst ek
  obtain ⟨t, rfl⟩ := ry
  refine call_meetsIn PySem.F.slot_dict_get (PySem.W.mapOf_K (prog := X.prog) (w := X.w) I3.kIn D.at_ D.lit).typeIs PySem.F.entry_dict_get (PySem.F.args_dict_get_3 _ _ _) (meets_dict_get_default (strKind X.prog X.w) a (strKind_is X.prog X.w k t) D.low fv) ⟨_, PySem.W.mapOf_K (prog := X.prog) (w := X.w) I3.kIn D.at_ D.lit, ?_⟩
  refine ⟨(f k).getD z, H3, I3.tok _, ?_, q3⟩
  have r := hk k
  cases hfk : f k with
  | none =>
    rw [hfk] at r
    cases hq : findBy Value.isStrOf es k with
    | none => exact rz
    | some u => rw [hq] at r; exact r.elim
  | some v =>
    rw [hfk] at r
    cases hq : findBy Value.isStrOf es k with
    | none => rw [hq] at r; exact r.elim
    | some u => rw [hq] at r; exact r
end
/-- a written tuple -/
def KTup (K : PySem.W.Frag) (a : Addr) (xs : List V) : Prop := ∀ H, SqT K H a xs
/-- what a table says of a word: its forms -/
def FormAt (K : PySem.W.Frag) (v : Option V) (fs : Option (List Nat)) : Prop := match fs with
  | none => v = none
  | some fs => ∃ a, v = some (.ref a) ∧ KTup K a (fs.map fun f => V.str (Mi.S (fN f)))
/-- the tables -/
structure Tb (K : PySem.W.Frag) (w : World) (mg : Str → Option Value) (aW aS aC aD aQ : Addr) (fS fC fD fQ : Str → Option V) : Prop where
  c_WORDS : ∃ u, mg "WORDS" = some u ∧ RelV (.ref aW) u
  c_SIZES_trees : ∃ u, mg "SIZES_trees" = some u ∧ RelV (.ref aS) u
  c_SIZES_checker : ∃ u, mg "SIZES_checker" = some u ∧ RelV (.ref aC) u
  c_DEEDS : ∃ u, mg "DEEDS" = some u ∧ RelV (.ref aD) u
  c_QUESTIONS : ∃ u, mg "QUESTIONS" = some u ∧ RelV (.ref aQ) u
  words : KTup K aW [vS Mi.wPut, vS Mi.wPatch, vS Mi.wDrop, vS Mi.wRename]
  D_SIZES_trees : WDict K w aS fS
  D_SIZES_checker : WDict K w aC fC
  D_DEEDS : WDict K w aD fD
  D_QUESTIONS : WDict K w aQ fQ
  sPut : fS (Mi.S Mi.wPut) = some (.int 3)
  sPatch : fS (Mi.S Mi.wPatch) = some (.int 5)
  sDrop : fS (Mi.S Mi.wDrop) = some (.int 2)
  sRename : fS (Mi.S Mi.wRename) = some (.int 3)
  cThere : fC (Mi.S Mi.wThere) = some (.int 3)
  cLength : fC (Mi.S Mi.wLength) = some (.int 3)
  cCell : fC (Mi.S Mi.wCell) = some (.int 4)
  deeds : ∀ w : Mi.Tx, FormAt K (fD (Mi.S w)) (Mi.forms true w)
  quests : ∀ w : Mi.Tx, FormAt K (fQ (Mi.S w)) (Mi.forms false w)
/-! ### shapes -/
section
variable {K : PySem.W.Frag} {σ : L2.St} {H H' : Hp} {ta tb te tx : TE} {t u : TT} {x y z v : V}
def shp (n : Nat) (d : PyData) : Prop := d.canLay0 = true ∧ d.depth ≤ n
theorem shp_int (n : Nat) (i : Int) : shp n (.int i) := ⟨rfl, Nat.zero_le _⟩
theorem shp_dI (n m : Nat) : shp n (Mi.dI m) := shp_int n _
theorem shp_dS {w : Mi.Tx} (n : Nat) (h : Asc w) : shp n (Mi.dS w) := ⟨by simpa [Mi.dS, PyData.canLay0] using h.ok, by simp [Mi.dS, PyData.depth]⟩
theorem asc_of {w : Mi.Tx} (h : (w.all fun c => decide (c < 128)) = true) : Asc w := fun c hc => of_decide_eq_true (List.all_eq_true.mp h c hc)
theorem shp_all {n : Nat} : ∀ {ds : List PyData}, (∀ d ∈ ds, shp n d) → PyData.canLayAll0 ds = true ∧ PyData.depthAll ds ≤ n
  | [], _ => ⟨rfl, Nat.zero_le _⟩
  | d :: ds, h => by
    have h1 := h d List.mem_cons_self
    have h2 := shp_all (ds := ds) fun e he => h e (List.mem_cons_of_mem _ he)
    refine ⟨?_, ?_⟩
    · show (PyData.canLay0 d && PyData.canLayAll0 ds) = true
      rw [h1.1, h2.1] <;> rfl
    · show max (PyData.depth d) (PyData.depthAll ds) ≤ n
      exact Nat.max_le.mpr ⟨h1.2, h2.2⟩
theorem shp_tup {n : Nat} {ds : List PyData} (h : ∀ d ∈ ds, shp n d) : shp (n + 1) (.tuple ds) := by
  have q := shp_all h
  exact ⟨by simpa [PyData.canLay0] using q.1, by simpa [PyData.depth] using q.2⟩
theorem shp_lst {n : Nat} {ds : List PyData} (h : ∀ d ∈ ds, shp n d) : shp (n + 1) (.list ds) := by
  have q := shp_all h
  exact ⟨by simpa [PyData.canLay0] using q.1, by simpa [PyData.depth] using q.2⟩
theorem shp_dC (n : Nat) (cs : List Nat) : shp (n + 1) (Mi.dC cs) := shp_tup fun d hd => by
  obtain ⟨c, _, rfl⟩ := List.mem_map.mp hd
  exact shp_dI _ _
theorem shp.ok {n : Nat} {d : PyData} (h : shp n d) (hn : n ≤ 64) : SeqAt.shaped d = true := by
  unfold SeqAt.shaped
  rw [h.1, decide_eq_true (Nat.le_trans h.2 hn)] <;> rfl
theorem nm_asc {w : Mi.Tx} (h : Mi.isNm w = true) : Asc w := fun c hc => by
  have q := List.all_eq_true.mp (Bool.and_eq_true_iff.mp h).2 c hc
  have := Mi.lets_mem (of_decide_eq_true q)
  omega
theorem nm_len {w : Mi.Tx} (h : Mi.isNm w = true) : w.length ≤ 4 := of_decide_eq_true (Bool.and_eq_true_iff.mp (Bool.and_eq_true_iff.mp h).1).2
theorem dd_shp {d : Mi.Dd} (h : d.ok) : shp 2 (.tuple d.py) := by
  refine shp_tup fun e he => ?_
  cases d with
  | put n cs =>
    simp only [Mi.Dd.py, List.mem_cons, List.not_mem_nil, or_false] at he
    rcases he with rfl | rfl | rfl
    · exact shp_dS _ (asc_of rfl)
    · exact shp_dS _ (nm_asc h.1)
    · exact shp_dC _ _
  | patch n a b cs =>
    simp only [Mi.Dd.py, List.mem_cons, List.not_mem_nil, or_false] at he
    rcases he with rfl | rfl | rfl | rfl | rfl
    · exact shp_dS _ (asc_of rfl)
    · exact shp_dS _ (nm_asc h.1)
    · exact shp_dI _ _
    · exact shp_dI _ _
    · exact shp_dC _ _
  | drop n =>
    simp only [Mi.Dd.py, List.mem_cons, List.not_mem_nil, or_false] at he
    rcases he with rfl | rfl
    · exact shp_dS _ (asc_of rfl)
    · exact shp_dS _ (nm_asc h)
  | rename n m =>
    simp only [Mi.Dd.py, List.mem_cons, List.not_mem_nil, or_false] at he
    rcases he with rfl | rfl | rfl
    · exact shp_dS _ (asc_of rfl)
    · exact shp_dS _ (nm_asc h.1)
    · exact shp_dS _ (nm_asc h.2.1)
theorem qn_shp {q : Mi.Qn} (h : q.ok) : shp 2 (.tuple q.py) := by
  have two : ∀ a b : Nat, shp 1 (.tuple [Mi.dI a, Mi.dI b]) := fun a b => shp_dC 0 [a, b]
  refine shp_tup fun e he => ?_
  cases q with
  | there a b n =>
    simp only [Mi.Qn.py, List.mem_cons, List.not_mem_nil, or_false] at he
    rcases he with rfl | rfl | rfl
    · exact shp_dS _ (asc_of rfl)
    · exact two _ _
    · exact shp_dS _ (nm_asc h.2)
  | length a b n =>
    simp only [Mi.Qn.py, List.mem_cons, List.not_mem_nil, or_false] at he
    rcases he with rfl | rfl | rfl
    · exact shp_dS _ (asc_of rfl)
    · exact two _ _
    · exact shp_dS _ (nm_asc h.2)
  | cell a b n t =>
    simp only [Mi.Qn.py, List.mem_cons, List.not_mem_nil, or_false] at he
    rcases he with rfl | rfl | rfl | rfl
    · exact shp_dS _ (asc_of rfl)
    · exact two _ _
    · exact shp_dS _ (nm_asc h.2.1)
    · exact shp_dI _ _
theorem eqv_nilT (ds : List PyData) : PyData.eqv (.tuple ds) (.tuple []) = ds.isEmpty := by
  cases ds <;> simp [PyData.eqv, PyData.eqvAll]
/-- t == () and t != () -/
theorem ev_eqNilT {ds : List PyData} {n : Nat} (h : Ev ta σ H x) (hd : Dt K H x (.tuple ds)) (hs : shp n (.tuple ds)) (hn : n ≤ 64 := by decide) : Ev (tOp (rEqD K) ta (tTup tNil)) σ H (.bl ds.isEmpty) :=
  ev_opU h (eu_tup ea_nil (by decide)) fun p H1 hp e => rv_val fun H2 e2 Q k => ⟨_, _, (hd.ex (e.trans e2)).dp, (show Dt K H2 (.ref p) (.tuple []) from .tup (st_of (e2 p _ hp)) .nil).dp, hs.ok hn, (shp_tup (n := 0) (ds := []) fun _ h => by cases h).ok (by decide), by
    rw [eqv_nilT]
    exact k⟩
theorem ev_neNilT {ds : List PyData} {n : Nat} (h : Ev ta σ H x) (hd : Dt K H x (.tuple ds)) (hs : shp n (.tuple ds)) (hn : n ≤ 64 := by decide) : Ev (tOp (rNeD K) ta (tTup tNil)) σ H (.bl (!ds.isEmpty)) :=
  ev_opU h (eu_tup ea_nil (by decide)) fun p H1 hp e => rv_val fun H2 e2 Q k => ⟨_, _, (hd.ex (e.trans e2)).dp, (show Dt K H2 (.ref p) (.tuple []) from .tup (st_of (e2 p _ hp)) .nil).dp, hs.ok hn, (shp_tup (n := 0) (ds := []) fun _ h => by cases h).ok (by decide), by
    rw [eqv_nilT]
    exact k⟩
/-- t[i], i written -/
theorem ev_ixT {a : Addr} {xs : List V} {i : Int} (h : Ev ta σ H (.ref a)) (hs : SqT K H a xs) (ha : atI xs i = some v) : Ev (tOp (rIxT K) ta (tC (.int i))) σ H v := ev_op h ev_c (rv_ixT hs ha)
theorem rv_wd {a : Addr} {f : Str → Option V} {k : Str} (h : f k = some v) : RV (rIxW a f) (.ref a) (.str k) H v := rv_val fun _ _ _ q => ⟨k, v, rfl, rfl, h, q⟩
theorem rv_inW {a : Addr} {f : Str → Option V} {k : Str} : RV (rInW a f) (.str k) (.ref a) H (.bl (f k).isSome) := rv_val fun _ _ _ q => ⟨k, rfl, rfl, q⟩
theorem ev_wget {a : Addr} {f : Str → Option V} {td ty : TE} {k : Str} (h1 : Ev td σ H (.ref a)) (h2 : Ev ty σ H (.str k)) (h3 : Ev tx σ H z) : Ev (tWGet a f td ty tx) σ H ((f k).getD z) := fun H1 e Q q =>
  h1 H1 e _ fun H2 e2 => ⟨rfl, h2 H2 (e.trans e2) _ fun H3 e3 => h3 H3 ((e.trans e2).trans e3) _ fun H4 e4 => ⟨k, rfl, q H4 ((e2.trans e3).trans e4)⟩⟩
theorem ev_all1 {b : Bool} {xs : List V} (h : EvL te σ H xs) {bs : List Bool} (e : xs = bs.map V.bl) (hb : bs.all id = b) : Ev (tCB (rAll K) (tCons te tNil)) σ H (.bl b) := by
  rw [← hb]
  exact ev_all h e
end
end K9
set_option Elab.async false
set_option linter.all false
set_option maxRecDepth 100000
set_option maxHeartbeats 4000000
namespace K9
open PySem PySem.Spec PyProof.Rows L2 Evl
section
variable {P : Program} {w : World} {K : PySem.W.Frag} {mg : Str → Option Value} {base : Heap}
/-! ### are_cells_in -/
def p_are_cells_in : List V → Hp → V → Prop := fun vs H v => ∃ (a : Addr) (cs : List Nat), vs = [.ref a, .int 0, .int 48] ∧ SqT K H a (cs.map vI) ∧ Mi.cellsOk cs ∧ v = .bl true
abbrev N_are_cells_in : List Str := ["value", "least", "most", "cell"]
theorem S_are_cells_in : FnScope N_are_cells_in ["value", "least", "most"] (defScope (top 13)) := ⟨rfl, rfl, rfl, by decide +kernel, rfl, by decide +kernel, by decide +kernel⟩
theorem B_are_cells_in (kV doc pm : Value) (an : Option Addr) (cdv ct : Value) (us : List Value) (hl : us.length = (["value", "least", "most"] : List Str).length) : bindArgs (PySem.W.fnOf "are_cells_in" "are_cells_in" (defArgs (top 13)) (defBody (top 13)) (defScope (top 13)) .none kV doc pm an cdv ct) ⟨us, []⟩ = pure ((["value", "least", "most"] : List Str).zip us) := match us, hl with | [_, _, _], _ => rfl
theorem all_true {α : Type} {l : List α} : (l.map fun _ => true).all id = true := by
  rw [List.all_map, List.all_eq_true]
  intro _ _
  rfl
theorem c_are_cells_in (D : DefOk K mg "are_cells_in" (top 13)) (G : Gb mg) (c_is_cell : C8.Cal P w K mg base 3 "is_cell" (Spv p_is_cell) []) : C8.Cal P w K mg base 4 "are_cells_in" (Spv (p_are_cells_in (K := K))) [] := cal_of D S_are_cells_in B_are_cells_in (fun vs H Q E h => by obtain ⟨v, ⟨a, o, rfl, _⟩, _⟩ := h; rfl) fun f cdv A outer s H vs Q E hr h => by
  refine ⟨_, (pss_cons (ps_if ((pw_or (pt_not (pt_val (pe_callB call_isi (by rfl) G.f_isinstance boot_isinstance (pa_cons (pv 0) (pa_cons (pe_bltn (v := .ty "tuple") (by rfl) G.f_tuple boot_tuple rfl) pa_nil))))) (pw_or1 (pt_not (pt_chain op_le op_le (pv 1) (pe_callB call_len_seq (by rfl) G.f_len boot_len (pa_cons (pv 0) pa_nil)) (pv 2)))))).pt (pss_one (ps_ret pe_bl)) pss_nil)
  (pss_one (ps_ret (pe_callB (cr_all rfl) (by rfl) G.f_all boot_all (pa_cons (pe_lc (own := [("cell", 3)]) (g := gName 3) (tt := tYes) rfl S_are_cells_in.nd (pi_tup (pv 0)) (blkOk_by (N := N_are_cells_in) (sc := defScope (top 13)) (by decide +kernel)) (fun _ _ _ _ _ => pg_name (i := 3) S_are_cells_in.nd rfl (Or.inl rfl)) (fun _ _ _ _ _ => pts_nil) (fun _ _ _ _ _ => (C8.pe_c c_is_cell hr (by decide) (by rfl) (pa_cons (pv 3) pa_nil)))) pa_nil))))), ?_⟩
  obtain ⟨_, ⟨a, cs, rfl, hs, hc, rfl⟩, k⟩ := h
  have hz : cs.length ≤ 48 := hc.1
  refine q_when (b := false) (et_is (et_or (a := false) (et_not (a := true) (et_B (ev_isi (b := true) (ev_var rfl) (fun _ e => ty_tup (ex_t e hs)) (by decide +kernel)))) fun _ => et_not (et_chain (ev_var rfl) (ev_lenT (ev_var rfl) hs) (ev_var rfl) rv_I0 rv_I0)) ?_) (fun h => nomatch h) fun _ H1 e1 => ?_
  · rw [List.length_map, show decide ((0 : Int) ≤ (cs.length : Int)) = true from decide_eq_true (by omega), show decide ((cs.length : Int) ≤ 48) = true from decide_eq_true (by omega)] <;> rfl
  · refine s_ret (ev_all1 (bs := cs.map fun _ => true) (el_tup (fun _ => true) (fun _ => .bl true) (ev_var rfl) (ex_t e1 hs) (by omega) (fun _ => rfl) (fun _ _ _ _ => et_yes) fun c hm _ H2 e2 => ev_cal (ea1 (ev_var rfl)) fun _ _ => ⟨some c, rfl, ?_⟩) (made_map (f := V.bl) (g := fun _ => true)) all_true) fun H2 e2 => k H2 (e1.trans e2)
    have h1 : c ≤ 996 := hc.2 c hm
    show V.bl true = V.bl (decide ((0 : Int) ≤ (c : Int)) && decide ((c : Int) ≤ 996))
    rw [decide_eq_true (by omega), decide_eq_true (by omega)] <;> rfl
/-! ### the parts of a deed, of a question -/
section
variable {H : Hp} {v : V}
theorem inv_put {n : Mi.Tx} {cs : List Nat} (h : Dt K H v (.tuple (Mi.Dd.put n cs).py)) : ∃ a c, v = .ref a ∧ SqT K H a [vS Mi.wPut, vS n, .ref c] ∧ SqT K H c (cs.map vI) := by
  obtain ⟨a, xs, rfl, hs, hd⟩ := Dt.tup_inv h
  cases hd with
  | cons h1 hd =>
    cases hd with
    | cons h2 hd =>
      cases hd with
      | cons h3 hd =>
        cases hd
        obtain ⟨c, e3, h4⟩ := Dt.cells_inv h3
        rw [Dt.str_inv h1, Dt.str_inv h2, e3] at hs
        exact ⟨a, c, rfl, hs, h4⟩
theorem inv_patch {n : Mi.Tx} {p q : Nat} {cs : List Nat} (h : Dt K H v (.tuple (Mi.Dd.patch n p q cs).py)) : ∃ a c, v = .ref a ∧ SqT K H a [vS Mi.wPatch, vS n, vI p, vI q, .ref c] ∧ SqT K H c (cs.map vI) := by
  obtain ⟨a, xs, rfl, hs, hd⟩ := Dt.tup_inv h
  cases hd with
  | cons h1 hd =>
    cases hd with
    | cons h2 hd =>
      cases hd with
      | cons h3 hd =>
        cases hd with
        | cons h4 hd =>
          cases hd with
          | cons h5 hd =>
            cases hd
            obtain ⟨c, e5, h6⟩ := Dt.cells_inv h5
            rw [Dt.str_inv h1, Dt.str_inv h2, Dt.int_inv h3, Dt.int_inv h4, e5] at hs
            exact ⟨a, c, rfl, hs, h6⟩
theorem inv_drop {n : Mi.Tx} (h : Dt K H v (.tuple (Mi.Dd.drop n).py)) : ∃ a, v = .ref a ∧ SqT K H a [vS Mi.wDrop, vS n] := by
  obtain ⟨a, xs, rfl, hs, hd⟩ := Dt.tup_inv h
  cases hd with
  | cons h1 hd =>
    cases hd with
    | cons h2 hd =>
      cases hd
      rw [Dt.str_inv h1, Dt.str_inv h2] at hs
      exact ⟨a, rfl, hs⟩
theorem inv_rename {n m : Mi.Tx} (h : Dt K H v (.tuple (Mi.Dd.rename n m).py)) : ∃ a, v = .ref a ∧ SqT K H a [vS Mi.wRename, vS n, vS m] := by
  obtain ⟨a, xs, rfl, hs, hd⟩ := Dt.tup_inv h
  cases hd with
  | cons h1 hd =>
    cases hd with
    | cons h2 hd =>
      cases hd with
      | cons h3 hd =>
        cases hd
        rw [Dt.str_inv h1, Dt.str_inv h2, Dt.str_inv h3] at hs
        exact ⟨a, rfl, hs⟩
theorem inv_save {p q : Nat} (h : Dt K H v (.tuple [Mi.dI p, Mi.dI q])) : ∃ a, v = .ref a ∧ SqT K H a [vI p, vI q] := Dt.cells_inv (cs := [p, q]) h
theorem inv_there {p q : Nat} {n u : Mi.Tx} (h : Dt K H v (.tuple [Mi.dS u, .tuple [Mi.dI p, Mi.dI q], Mi.dS n])) : ∃ a c, v = .ref a ∧ SqT K H a [vS u, .ref c, vS n] ∧ SqT K H c [vI p, vI q] := by
  obtain ⟨a, xs, rfl, hs, hd⟩ := Dt.tup_inv h
  cases hd with
  | cons h1 hd =>
    cases hd with
    | cons h2 hd =>
      cases hd with
      | cons h3 hd =>
        cases hd
        obtain ⟨c, e2, h4⟩ := inv_save h2
        rw [Dt.str_inv h1, Dt.str_inv h3, e2] at hs
        exact ⟨a, c, rfl, hs, h4⟩
theorem inv_cell {p q t : Nat} {n u : Mi.Tx} (h : Dt K H v (.tuple [Mi.dS u, .tuple [Mi.dI p, Mi.dI q], Mi.dS n, Mi.dI t])) : ∃ a c, v = .ref a ∧ SqT K H a [vS u, .ref c, vS n, vI t] ∧ SqT K H c [vI p, vI q] := by
  obtain ⟨a, xs, rfl, hs, hd⟩ := Dt.tup_inv h
  cases hd with
  | cons h1 hd =>
    cases hd with
    | cons h2 hd =>
      cases hd with
      | cons h3 hd =>
        cases hd with
        | cons h5 hd =>
          cases hd
          obtain ⟨c, e2, h4⟩ := inv_save h2
          rw [Dt.str_inv h1, Dt.str_inv h3, Dt.int_inv h5, e2] at hs
          exact ⟨a, c, rfl, hs, h4⟩
end
/-! ### is_deed -/
section
variable {σ : L2.St} {H : Hp} {ta tb : TE}
/-- t[lo:hi], not the whole: a new tuple -/
theorem eu_sl {a : Addr} {xs : List V} {i : Int} (h : Ev ta σ H (.ref a)) (hs : SqT K H a xs) (hi : ¬ (HT.sIx xs.length 0 (some i) = 0 ∧ HT.sIx xs.length xs.length none = xs.length)) : EvU (tSl (rSlA K) ta (tPart (tC (.int i))) tNoPart) σ H (cutV xs (some i) none) := fun H1 e Q q =>
  h H1 e _ fun H2 e2 => ⟨i, rfl, a, xs, rfl, ex_t (e.trans e2) hs, fun z => absurd z hi, fun _ p hp => q p _ (fresh_back e2 hp) (e2.trans (Ex.new hp)) upd_same⟩
theorem eu_sl2 {a : Addr} {xs : List V} {i j : Int} (h : Ev ta σ H (.ref a)) (hs : SqT K H a xs) (hi : ¬ (HT.sIx xs.length 0 (some i) = 0 ∧ HT.sIx xs.length xs.length (some j) = xs.length)) : EvU (tSl (rSlA K) ta (tPart (tC (.int i))) (tPart (tC (.int j)))) σ H (cutV xs (some i) (some j)) := fun H1 e Q q =>
  h H1 e _ fun H2 e2 => ⟨i, rfl, j, rfl, a, xs, rfl, ex_t (e.trans e2) hs, fun z => absurd z hi, fun _ p hp => q p _ (fresh_back e2 hp) (e2.trans (Ex.new hp)) upd_same⟩
end
def p_is_deed : List V → Hp → V → Prop := fun vs H v => ∃ (x : V) (d : Mi.Dd), vs = [x] ∧ Dt K H x (.tuple d.py) ∧ d.ok ∧ v = .bl true
abbrev N_is_deed : List Str := ["value", "number"]
theorem S_is_deed : FnScope N_is_deed ["value"] (defScope (top 23)) := ⟨rfl, rfl, rfl, by decide +kernel, rfl, by decide +kernel, by decide +kernel⟩
theorem B_is_deed (kV doc pm : Value) (an : Option Addr) (cdv ct : Value) (us : List Value) (hl : us.length = (["value"] : List Str).length) : bindArgs (PySem.W.fnOf "is_deed" "is_deed" (defArgs (top 23)) (defBody (top 23)) (defScope (top 23)) .none kV doc pm an cdv ct) ⟨us, []⟩ = pure ((["value"] : List Str).zip us) := match us, hl with | [_], _ => rfl
variable {aW aS aC aD aQ : Addr} {fS fC fD fQ : Str → Option V}
theorem c_is_deed (D : DefOk K mg "is_deed" (top 23)) (G : Gb mg) (T : Tb K w mg aW aS aC aD aQ fS fC fD fQ) (c_is_name : C8.Cal P w K mg base 1 "is_name" (Spv p_is_name) []) (c_is_within : C8.Cal P w K mg base 2 "is_within" (Spv p_is_within) []) (c_are_cells_in : C8.Cal P w K mg base 4 "are_cells_in" (Spv (p_are_cells_in (K := K))) []) : C8.Cal P w K mg base 5 "is_deed" (Spv (p_is_deed (K := K))) [] := cal_of D S_is_deed B_is_deed (fun vs H Q E h => by obtain ⟨v, ⟨a, o, rfl, _⟩, _⟩ := h; rfl) fun f cdv A outer s H vs Q E hr h => by
  refine ⟨_, (pss_cons (ps_if ((pw_or (pt_not (pt_val (pe_callB call_isi (by rfl) G.f_isinstance boot_isinstance (pa_cons (pv 0) (pa_cons (pe_bltn (v := .ty "tuple") (by rfl) G.f_tuple boot_tuple rfl) pa_nil))))) (pw_or (pt_cmpR (op_eqD hr.units) (pv 0) (pe_tup pa_nil) (nomark _)) (pw_or (pt_not (pt_val (pe_callB call_isi (by rfl) G.f_isinstance boot_isinstance (pa_cons (pe_ix ix_tup (pv 0) pe_int (fun _ _ => rfl)) (pa_cons (pe_bltn (v := .ty "str") (by rfl) G.f_str boot_str rfl) pa_nil))))) (pw_or1 (pt_cmpR op_notIn_seq (pe_ix ix_tup (pv 0) pe_int (fun _ _ => rfl)) (C8.pe_gc (by rfl) T.c_WORDS) (by with_unfolding_all rfl))))))).pt (pss_one (ps_ret pe_bl)) pss_nil)
  (pss_cons (ps_if ((pw_or (pt_cmpR op_ne (pe_callB call_len_seq (by rfl) G.f_len boot_len (pa_cons (pv 0) pa_nil)) (pe_ix (ix_wd T.D_SIZES_trees) (C8.pe_gc (by rfl) T.c_SIZES_trees) (pe_ix ix_tup (pv 0) pe_int (fun _ _ => rfl)) (fun _ _ => rfl)) (nomark _)) (pw_or1 (pt_not (pt_val (C8.pe_c c_is_name hr (by decide) (by rfl) (pa_cons (pe_ix ix_tup (pv 0) pe_int (fun _ _ => rfl)) pa_nil))))))).pt (pss_one (ps_ret pe_bl)) pss_nil)
  (pss_cons (ps_if (pt_cmpR op_eq (pe_ix ix_tup (pv 0) pe_int (fun _ _ => rfl)) (C8.pe_gc (by rfl) G.c_RENAME) (nomark _)) (pss_one (ps_ret (pe_and (C8.pe_c c_is_name hr (by decide) (by rfl) (pa_cons (pe_ix ix_tup (pv 0) pe_int (fun _ _ => rfl)) pa_nil)) (pe_one (pe_cmpR op_ne (pe_ix ix_tup (pv 0) pe_int (fun _ _ => rfl)) (pe_ix ix_tup (pv 0) pe_int (fun _ _ => rfl)) (nomark _)))))) pss_nil)
  (pss_cons (ps_if ((pw_and (pt_cmpR op_eq (pe_ix ix_tup (pv 0) pe_int (fun _ _ => rfl)) (C8.pe_gc (by rfl) G.c_PATCH) (nomark _)) (pw_and1 (pt_not (pt_val (pe_callB (cr_all rfl) (by rfl) G.f_all boot_all (pa_cons (pe_lc (own := [("number", 1)]) (g := gName 1) (tt := tYes) rfl S_is_deed.nd (pi_tup (pe_slice sl_tupA (pv 0) (po_some pe_int) (po_some pe_int))) (blkOk_by (N := N_is_deed) (sc := defScope (top 23)) (by decide +kernel)) (fun _ _ _ _ _ => pg_name (i := 1) S_is_deed.nd rfl (Or.inl rfl)) (fun _ _ _ _ _ => pts_nil) (fun _ _ _ _ _ => (C8.pe_c c_is_within hr (by decide) (by rfl) (pa_cons (pv 1) (pa_cons pe_int (pa_cons (C8.pe_gc (by rfl) G.c_MAX_CELL) pa_nil)))))) pa_nil))))))).pt (pss_one (ps_ret pe_bl)) pss_nil)
  (pss_one (ps_ret (pe_or (pe_cmpR op_eq (pe_ix ix_tup (pv 0) pe_int (fun _ _ => rfl)) (C8.pe_gc (by rfl) G.c_DROP) (nomark _)) (pe_one (C8.pe_c c_are_cells_in hr (by decide) (by rfl) (pa_cons (pe_ix ix_tup (pv 0) (pe_un un_neg pe_int) (fun _ _ => rfl)) (pa_cons pe_int (pa_cons (C8.pe_gc (by rfl) G.c_MOST_NEW) pa_nil)))))))))))), ?_⟩
  obtain ⟨_, ⟨x, d, rfl, hx, hd, rfl⟩, k⟩ := h
  have shx := dd_shp hd
  cases d with
  | put n cs =>
    obtain ⟨a, c, rfl, hs, hcs⟩ := inv_put hx
    obtain ⟨hn, hc⟩ := hd
    have ln := nm_len hn
    refine q_when (b := false) (et_is (et_or (a := false) (et_not (a := true) (et_B (ev_isi (b := true) (ev_var rfl) (fun _ e => ty_tup (ex_t e hs)) (by decide +kernel)))) fun _ => et_or (et_test (ev_eqNilT (ev_var rfl) hx shx)) fun _ => et_or (a := false) (et_not (a := true) (et_B (ev_isi (b := true) (ev_ixT (ev_var rfl) hs (v := vS Mi.wPut) rfl) (fun _ _ => ty_str) (by decide +kernel)))) fun _ => et_op (ev_ixT (ev_var rfl) hs (v := vS Mi.wPut) rfl) ev_c (rv_niT (T.words _) rfl rfl)) (by rfl)) (fun h => nomatch h) fun _ H1 e1 => ?_
    refine q_when (b := false) (et_is (et_or (a := false) (et_is (et_op (ev_lenT (ev_var rfl) (ex_t e1 hs)) (ev_op ev_c (ev_ixT (ev_var rfl) (ex_t e1 hs) (v := vS Mi.wPut) rfl) (rv_wd T.sPut)) (rv_ne rfl)) (by rfl)) fun _ => et_not (a := true) (et_B (ev_cal (ea1 (ev_ixT (ev_var rfl) (ex_t e1 hs) (v := vS n) rfl)) fun _ _ => ⟨n, rfl, by omega, by rw [hn]⟩))) rfl) (fun h => nomatch h) fun _ H2 e2 => ?_
    have e12 := e1.trans e2
    refine q_when (b := false) (et_is (et_op (ev_ixT (ev_var rfl) (ex_t e12 hs) (v := vS Mi.wPut) rfl) ev_c rv_eqS) (by decide +kernel)) (fun h => nomatch h) fun _ H3 e3 => ?_
    have e13 := e12.trans e3
    refine q_when (b := false) (et_and (a := false) (b := false) (et_is (et_op (ev_ixT (ev_var rfl) (ex_t e13 hs) (v := vS Mi.wPut) rfl) ev_c rv_eqS) (by decide +kernel)) fun h => nomatch h) (fun h => nomatch h) fun _ H4 e4 => ?_
    have e14 := e13.trans e4
    exact s_ret (ev_orV (a := false) (b := true) (ev_is (ev_op (ev_ixT (ev_var rfl) (ex_t e14 hs) (v := vS Mi.wPut) rfl) ev_c rv_eqS) rfl) fun _ => ev_cal (ea3 (ev_op (ev_var rfl) (ev_un ev_c ru_neg) (rv_ixT (ex_t e14 hs) (v := .ref c) rfl)) ev_c ev_c) fun _ e => ⟨c, cs, rfl, ex_t (e14.trans e) hcs, hc, rfl⟩) fun H5 e5 => k H5 (e14.trans e5)
  | patch n p q cs =>
    obtain ⟨a, c, rfl, hs, hcs⟩ := inv_patch hx
    obtain ⟨hn, hp, hq, hc⟩ := hd
    have ln := nm_len hn
    refine q_when (b := false) (et_is (et_or (a := false) (et_not (a := true) (et_B (ev_isi (b := true) (ev_var rfl) (fun _ e => ty_tup (ex_t e hs)) (by decide +kernel)))) fun _ => et_or (et_test (ev_eqNilT (ev_var rfl) hx shx)) fun _ => et_or (a := false) (et_not (a := true) (et_B (ev_isi (b := true) (ev_ixT (ev_var rfl) hs (v := vS Mi.wPatch) rfl) (fun _ _ => ty_str) (by decide +kernel)))) fun _ => et_op (ev_ixT (ev_var rfl) hs (v := vS Mi.wPatch) rfl) ev_c (rv_niT (T.words _) rfl rfl)) (by rfl)) (fun h => nomatch h) fun _ H1 e1 => ?_
    refine q_when (b := false) (et_is (et_or (a := false) (et_is (et_op (ev_lenT (ev_var rfl) (ex_t e1 hs)) (ev_op ev_c (ev_ixT (ev_var rfl) (ex_t e1 hs) (v := vS Mi.wPatch) rfl) (rv_wd T.sPatch)) (rv_ne rfl)) (by rfl)) fun _ => et_not (a := true) (et_B (ev_cal (ea1 (ev_ixT (ev_var rfl) (ex_t e1 hs) (v := vS n) rfl)) fun _ _ => ⟨n, rfl, by omega, by rw [hn]⟩))) rfl) (fun h => nomatch h) fun _ H2 e2 => ?_
    have e12 := e1.trans e2
    refine q_when (b := false) (et_is (et_op (ev_ixT (ev_var rfl) (ex_t e12 hs) (v := vS Mi.wPatch) rfl) ev_c rv_eqS) (by decide +kernel)) (fun h => nomatch h) fun _ H3 e3 => ?_
    have e13 := e12.trans e3
    refine q_when (b := false) (et_is (et_and (a := true) (et_is (et_op (ev_ixT (ev_var rfl) (ex_t e13 hs) (v := vS Mi.wPatch) rfl) ev_c rv_eqS) (by decide +kernel)) fun _ => et_not (a := true) (et_B (ev_all1 (bs := [p, q].map fun _ => true) (el_tupN (l := [p, q]) (val := vI) (fun _ => true) (fun _ => .bl true) (eu_sl2 (ev_var rfl) (ex_t e13 hs) (fun h => absurd (show (2 : Nat) = 0 from h.1) (by decide))) (show 2 ≤ 40000 from by decide) (fun _ => rfl) (fun _ _ _ _ => et_yes) fun m hm _ H2 e2 => ev_cal (ea3 (ev_var rfl) ev_c ev_c) fun _ _ => ⟨some m, 0, 996, rfl, ?_⟩) (made_map (f := V.bl) (g := fun _ => true)) all_true))) rfl) (fun h => nomatch h) fun _ H4 e4 => ?_
    · have h1 : m ≤ 996 := by
        rcases List.mem_cons.mp hm with rfl | hm
        · exact hp
        · rw [List.mem_singleton.mp hm]; exact hq
      show V.bl true = V.bl (decide ((0 : Int) ≤ (m : Int)) && decide ((m : Int) ≤ 996))
      rw [decide_eq_true (by omega), decide_eq_true (by omega)] <;> rfl
    have e14 := e13.trans e4
    exact s_ret (ev_orV (a := false) (b := true) (ev_is (ev_op (ev_ixT (ev_var rfl) (ex_t e14 hs) (v := vS Mi.wPatch) rfl) ev_c rv_eqS) rfl) fun _ => ev_cal (ea3 (ev_op (ev_var rfl) (ev_un ev_c ru_neg) (rv_ixT (ex_t e14 hs) (v := .ref c) rfl)) ev_c ev_c) fun _ e => ⟨c, cs, rfl, ex_t (e14.trans e) hcs, hc, rfl⟩) fun H5 e5 => k H5 (e14.trans e5)
  | drop n =>
    obtain ⟨a, rfl, hs⟩ := inv_drop hx
    have hn : Mi.isNm n = true := hd
    have ln := nm_len hn
    refine q_when (b := false) (et_is (et_or (a := false) (et_not (a := true) (et_B (ev_isi (b := true) (ev_var rfl) (fun _ e => ty_tup (ex_t e hs)) (by decide +kernel)))) fun _ => et_or (et_test (ev_eqNilT (ev_var rfl) hx shx)) fun _ => et_or (a := false) (et_not (a := true) (et_B (ev_isi (b := true) (ev_ixT (ev_var rfl) hs (v := vS Mi.wDrop) rfl) (fun _ _ => ty_str) (by decide +kernel)))) fun _ => et_op (ev_ixT (ev_var rfl) hs (v := vS Mi.wDrop) rfl) ev_c (rv_niT (T.words _) rfl rfl)) (by rfl)) (fun h => nomatch h) fun _ H1 e1 => ?_
    refine q_when (b := false) (et_is (et_or (a := false) (et_is (et_op (ev_lenT (ev_var rfl) (ex_t e1 hs)) (ev_op ev_c (ev_ixT (ev_var rfl) (ex_t e1 hs) (v := vS Mi.wDrop) rfl) (rv_wd T.sDrop)) (rv_ne rfl)) (by rfl)) fun _ => et_not (a := true) (et_B (ev_cal (ea1 (ev_ixT (ev_var rfl) (ex_t e1 hs) (v := vS n) rfl)) fun _ _ => ⟨n, rfl, by omega, by rw [hn]⟩))) rfl) (fun h => nomatch h) fun _ H2 e2 => ?_
    have e12 := e1.trans e2
    refine q_when (b := false) (et_is (et_op (ev_ixT (ev_var rfl) (ex_t e12 hs) (v := vS Mi.wDrop) rfl) ev_c rv_eqS) (by decide +kernel)) (fun h => nomatch h) fun _ H3 e3 => ?_
    have e13 := e12.trans e3
    refine q_when (b := false) (et_and (a := false) (b := false) (et_is (et_op (ev_ixT (ev_var rfl) (ex_t e13 hs) (v := vS Mi.wDrop) rfl) ev_c rv_eqS) (by decide +kernel)) fun h => nomatch h) (fun h => nomatch h) fun _ H4 e4 => ?_
    have e14 := e13.trans e4
    exact s_ret (ev_orV (a := true) (b := false) (ev_is (ev_op (ev_ixT (ev_var rfl) (ex_t e14 hs) (v := vS Mi.wDrop) rfl) ev_c rv_eqS) rfl) fun h => nomatch h) fun H5 e5 => k H5 (e14.trans e5)
  | rename n m =>
    obtain ⟨a, rfl, hs⟩ := inv_rename hx
    obtain ⟨hn, hm, hne⟩ := hd
    have ln := nm_len hn
    have lm := nm_len hm
    refine q_when (b := false) (et_is (et_or (a := false) (et_not (a := true) (et_B (ev_isi (b := true) (ev_var rfl) (fun _ e => ty_tup (ex_t e hs)) (by decide +kernel)))) fun _ => et_or (et_test (ev_eqNilT (ev_var rfl) hx shx)) fun _ => et_or (a := false) (et_not (a := true) (et_B (ev_isi (b := true) (ev_ixT (ev_var rfl) hs (v := vS Mi.wRename) rfl) (fun _ _ => ty_str) (by decide +kernel)))) fun _ => et_op (ev_ixT (ev_var rfl) hs (v := vS Mi.wRename) rfl) ev_c (rv_niT (T.words _) rfl rfl)) (by rfl)) (fun h => nomatch h) fun _ H1 e1 => ?_
    refine q_when (b := false) (et_is (et_or (a := false) (et_is (et_op (ev_lenT (ev_var rfl) (ex_t e1 hs)) (ev_op ev_c (ev_ixT (ev_var rfl) (ex_t e1 hs) (v := vS Mi.wRename) rfl) (rv_wd T.sRename)) (rv_ne rfl)) (by rfl)) fun _ => et_not (a := true) (et_B (ev_cal (ea1 (ev_ixT (ev_var rfl) (ex_t e1 hs) (v := vS n) rfl)) fun _ _ => ⟨n, rfl, by omega, by rw [hn]⟩))) rfl) (fun h => nomatch h) fun _ H2 e2 => ?_
    have e12 := e1.trans e2
    refine q_when (b := true) (et_is (et_op (ev_ixT (ev_var rfl) (ex_t e12 hs) (v := vS Mi.wRename) rfl) ev_c rv_eqS) (by decide +kernel)) (fun _ H3 e3 => ?_) (fun h => nomatch h)
    have e13 := e12.trans e3
    exact s_ret (ev_is (ev_andV (a := true) (ev_cal (ea1 (ev_ixT (ev_var rfl) (ex_t e13 hs) (v := vS m) rfl)) fun _ _ => ⟨m, rfl, by omega, by rw [hm]⟩) fun _ => ev_op (ev_ixT (ev_var rfl) (ex_t e13 hs) (v := vS n) rfl) (ev_ixT (ev_var rfl) (ex_t e13 hs) (v := vS m) rfl) rv_neS) (by rw [decide_eq_false hne] <;> rfl)) fun H5 e5 => k H5 (e13.trans e5)
end
end K9
set_option Elab.async false
set_option linter.all false
set_option maxRecDepth 100000
set_option maxHeartbeats 4000000
namespace K9
open PySem PySem.Spec PyProof.Rows L2 Evl
section
variable {P : Program} {w : World} {K : PySem.W.Frag} {mg : Str → Option Value} {base : Heap}
variable {aW aS aC aD aQ : Addr} {fS fC fD fQ : Str → Option V}
/-! ### require_deed -/
def p_require_deed : List V → Hp → V → Prop := fun vs H v => ∃ (x : V) (d : Mi.Dd), vs = [x] ∧ Dt K H x (.tuple d.py) ∧ d.ok ∧ v = .non
abbrev N_require_deed : List Str := ["value"]
theorem S_require_deed : FnScope N_require_deed ["value"] (defScope (top 24)) := ⟨rfl, rfl, rfl, by decide +kernel, rfl, by decide +kernel, by decide +kernel⟩
theorem B_require_deed (kV doc pm : Value) (an : Option Addr) (cdv ct : Value) (us : List Value) (hl : us.length = (["value"] : List Str).length) : bindArgs (PySem.W.fnOf "require_deed" "require_deed" (defArgs (top 24)) (defBody (top 24)) (defScope (top 24)) .none kV doc pm an cdv ct) ⟨us, []⟩ = pure ((["value"] : List Str).zip us) := match us, hl with | [_], _ => rfl
theorem c_require_deed (D : DefOk K mg "require_deed" (top 24)) (c_is_deed : C8.Cal P w K mg base 5 "is_deed" (Spv (p_is_deed (K := K))) []) : C8.Cal P w K mg base 6 "require_deed" (Spv (p_require_deed (K := K))) [] := cal_of D S_require_deed B_require_deed (fun vs H Q E h => by obtain ⟨v, ⟨a, o, rfl, _⟩, _⟩ := h; rfl) fun f cdv A outer s H vs Q E hr h => by
  refine ⟨_, (pss_one (ps_if (pt_not (pt_val (C8.pe_c c_is_deed hr (by decide) (by rfl) (pa_cons (pv 0) pa_nil)))) (pss_one ps_dead) pss_nil)), ?_⟩
  obtain ⟨_, ⟨x, d, rfl, hx, hd, rfl⟩, k⟩ := h
  exact s_when (b := false) (et_not (a := true) (et_B (ev_cal (ea1 (ev_var rfl)) fun _ e => ⟨x, d, rfl, hx.ex e, hd, rfl⟩))) (fun h => nomatch h) fun _ H1 e1 => k H1 e1
/-! ### is_question -/
def p_is_question : List V → Hp → V → Prop := fun vs H v => ∃ (x : V) (q : Mi.Qn), vs = [x] ∧ Dt K H x (.tuple q.py) ∧ q.ok ∧ v = .bl true
abbrev N_is_question : List Str := ["value"]
theorem S_is_question : FnScope N_is_question ["value"] (defScope (top 33)) := ⟨rfl, rfl, rfl, by decide +kernel, rfl, by decide +kernel, by decide +kernel⟩
theorem B_is_question (kV doc pm : Value) (an : Option Addr) (cdv ct : Value) (us : List Value) (hl : us.length = (["value"] : List Str).length) : bindArgs (PySem.W.fnOf "is_question" "is_question" (defArgs (top 33)) (defBody (top 33)) (defScope (top 33)) .none kV doc pm an cdv ct) ⟨us, []⟩ = pure ((["value"] : List Str).zip us) := match us, hl with | [_], _ => rfl
theorem sv_of {a b : Nat} (h : Mi.saveOk a b) : svOk [some a, some b] = true := by
  obtain ⟨⟨h1, h2⟩, h3, h4⟩ := h
  unfold svOk
  simp only [List.all_cons, List.all_nil, Bool.and_true, List.length_cons, List.length_nil]
  rw [inR1 (o := some a) (fun n e => by cases e; exact h2), inR1 (o := some b) (fun n e => by cases e; exact h4)]
  simp [h1, h3]
theorem c_is_question (D : DefOk K mg "is_question" (top 33)) (G : Gb mg) (T : Tb K w mg aW aS aC aD aQ fS fC fD fQ) (c_is_name : C8.Cal P w K mg base 1 "is_name" (Spv p_is_name) []) (c_is_within : C8.Cal P w K mg base 2 "is_within" (Spv p_is_within) []) (c_is_save_name : C8.Cal P w K mg base 3 "is_save_name" (Spv (p_is_save_name (K := K))) []) : C8.Cal P w K mg base 4 "is_question" (Spv (p_is_question (K := K))) [] := cal_of D S_is_question B_is_question (fun vs H Q E h => by obtain ⟨v, ⟨a, o, rfl, _⟩, _⟩ := h; rfl) fun f cdv A outer s H vs Q E hr h => by
  refine ⟨_, (pss_cons (ps_if ((pw_or (pt_not (pt_val (pe_callB call_isi (by rfl) G.f_isinstance boot_isinstance (pa_cons (pv 0) (pa_cons (pe_bltn (v := .ty "tuple") (by rfl) G.f_tuple boot_tuple rfl) pa_nil))))) (pw_or (pt_cmpR (op_eqD hr.units) (pv 0) (pe_tup pa_nil) (nomark _)) (pw_or1 (pt_not (pt_val (pe_callB call_isi (by rfl) G.f_isinstance boot_isinstance (pa_cons (pe_ix ix_tup (pv 0) pe_int (fun _ _ => rfl)) (pa_cons (pe_bltn (v := .ty "str") (by rfl) G.f_str boot_str rfl) pa_nil))))))))).pt (pss_one (ps_ret pe_bl)) pss_nil)
  (pss_cons (ps_if ((pw_or (pt_cmpR op_ne (pe_wget (T.D_SIZES_checker) (C8.pe_gc (by rfl) T.c_SIZES_checker) (pe_ix ix_tup (pv 0) pe_int (fun _ _ => rfl)) pe_int ⟨rfl, rfl, rfl, rfl⟩) (pe_callB call_len_seq (by rfl) G.f_len boot_len (pa_cons (pv 0) pa_nil)) (nomark _)) (pw_or (pt_not (pt_val (C8.pe_c c_is_save_name hr (by decide) (by rfl) (pa_cons (pe_ix ix_tup (pv 0) pe_int (fun _ _ => rfl)) pa_nil)))) (pw_or1 (pt_not (pt_val (C8.pe_c c_is_name hr (by decide) (by rfl) (pa_cons (pe_ix ix_tup (pv 0) pe_int (fun _ _ => rfl)) pa_nil)))))))).pt (pss_one (ps_ret pe_bl)) pss_nil)
  (pss_one (ps_ret (pe_or (pe_cmpR op_ne (pe_ix ix_tup (pv 0) pe_int (fun _ _ => rfl)) (C8.pe_gc (by rfl) G.c_CELL) (nomark _)) (pe_one (C8.pe_c c_is_within hr (by decide) (by rfl) (pa_cons (pe_ix ix_tup (pv 0) pe_int (fun _ _ => rfl)) (pa_cons pe_int (pa_cons (C8.pe_gc (by rfl) G.c_MOST_AT_checker) pa_nil)))))))))), ?_⟩
  obtain ⟨_, ⟨x, q, rfl, hx, hq, rfl⟩, k⟩ := h
  have shx := qn_shp hq
  cases q with
  | there p q n =>
    obtain ⟨a, c, rfl, hs, hcs⟩ := inv_there hx
    obtain ⟨hsv, hn⟩ := hq
    have ln := nm_len hn
    refine q_when (b := false) (et_is (et_or (a := false) (et_not (a := true) (et_B (ev_isi (b := true) (ev_var rfl) (fun _ e => ty_tup (ex_t e hs)) (by decide +kernel)))) fun _ => et_or (et_test (ev_eqNilT (ev_var rfl) hx shx)) fun _ => (et_not (a := true) (et_B (ev_isi (b := true) (ev_ixT (ev_var rfl) hs (v := vS Mi.wThere) rfl) (fun _ _ => ty_str) (by decide +kernel))))) (by rfl)) (fun h => nomatch h) fun _ H1 e1 => ?_
    refine q_when (b := false) (et_is (et_or (a := false) (et_is (et_op (ev_is (ev_wget ev_c (ev_ixT (ev_var rfl) (ex_t e1 hs) (v := vS Mi.wThere) rfl) ev_c) (by rw [T.cThere] <;> rfl)) (ev_lenT (ev_var rfl) (ex_t e1 hs)) (rv_ne rfl)) (by rfl)) fun _ => et_or (a := false) (et_not (a := true) (et_B (ev_cal (ea1 (ev_ixT (ev_var rfl) (ex_t e1 hs) (v := .ref c) rfl)) fun _ e => ⟨c, [some p, some q], rfl, ex_t (e1.trans e) hcs, (by show 2 ≤ 40000; decide), by rw [sv_of hsv]⟩))) fun _ => et_not (a := true) (et_B (ev_cal (ea1 (ev_ixT (ev_var rfl) (ex_t e1 hs) (v := vS n) rfl)) fun _ _ => ⟨n, rfl, by omega, by rw [hn]⟩))) rfl) (fun h => nomatch h) fun _ H2 e2 => ?_
    have e12 := e1.trans e2
    exact s_ret (ev_orV (a := true) (b := true) (ev_is (ev_op (ev_ixT (ev_var rfl) (ex_t e12 hs) (v := vS Mi.wThere) rfl) ev_c (rv_neS (b := Mi.wCell))) rfl) fun h => nomatch h) fun H5 e5 => k H5 (e12.trans e5)
  | length p q n =>
    obtain ⟨a, c, rfl, hs, hcs⟩ := inv_there hx
    obtain ⟨hsv, hn⟩ := hq
    have ln := nm_len hn
    refine q_when (b := false) (et_is (et_or (a := false) (et_not (a := true) (et_B (ev_isi (b := true) (ev_var rfl) (fun _ e => ty_tup (ex_t e hs)) (by decide +kernel)))) fun _ => et_or (et_test (ev_eqNilT (ev_var rfl) hx shx)) fun _ => (et_not (a := true) (et_B (ev_isi (b := true) (ev_ixT (ev_var rfl) hs (v := vS Mi.wLength) rfl) (fun _ _ => ty_str) (by decide +kernel))))) (by rfl)) (fun h => nomatch h) fun _ H1 e1 => ?_
    refine q_when (b := false) (et_is (et_or (a := false) (et_is (et_op (ev_is (ev_wget ev_c (ev_ixT (ev_var rfl) (ex_t e1 hs) (v := vS Mi.wLength) rfl) ev_c) (by rw [T.cLength] <;> rfl)) (ev_lenT (ev_var rfl) (ex_t e1 hs)) (rv_ne rfl)) (by rfl)) fun _ => et_or (a := false) (et_not (a := true) (et_B (ev_cal (ea1 (ev_ixT (ev_var rfl) (ex_t e1 hs) (v := .ref c) rfl)) fun _ e => ⟨c, [some p, some q], rfl, ex_t (e1.trans e) hcs, (by show 2 ≤ 40000; decide), by rw [sv_of hsv]⟩))) fun _ => et_not (a := true) (et_B (ev_cal (ea1 (ev_ixT (ev_var rfl) (ex_t e1 hs) (v := vS n) rfl)) fun _ _ => ⟨n, rfl, by omega, by rw [hn]⟩))) rfl) (fun h => nomatch h) fun _ H2 e2 => ?_
    have e12 := e1.trans e2
    exact s_ret (ev_orV (a := true) (b := true) (ev_is (ev_op (ev_ixT (ev_var rfl) (ex_t e12 hs) (v := vS Mi.wLength) rfl) ev_c (rv_neS (b := Mi.wCell))) rfl) fun h => nomatch h) fun H5 e5 => k H5 (e12.trans e5)
  | cell p q n t =>
    obtain ⟨a, c, rfl, hs, hcs⟩ := inv_cell hx
    obtain ⟨hsv, hn, ht⟩ := hq
    have ln := nm_len hn
    refine q_when (b := false) (et_is (et_or (a := false) (et_not (a := true) (et_B (ev_isi (b := true) (ev_var rfl) (fun _ e => ty_tup (ex_t e hs)) (by decide +kernel)))) fun _ => et_or (et_test (ev_eqNilT (ev_var rfl) hx shx)) fun _ => (et_not (a := true) (et_B (ev_isi (b := true) (ev_ixT (ev_var rfl) hs (v := vS Mi.wCell) rfl) (fun _ _ => ty_str) (by decide +kernel))))) (by rfl)) (fun h => nomatch h) fun _ H1 e1 => ?_
    refine q_when (b := false) (et_is (et_or (a := false) (et_is (et_op (ev_is (ev_wget ev_c (ev_ixT (ev_var rfl) (ex_t e1 hs) (v := vS Mi.wCell) rfl) ev_c) (by rw [T.cCell] <;> rfl)) (ev_lenT (ev_var rfl) (ex_t e1 hs)) (rv_ne rfl)) (by rfl)) fun _ => et_or (a := false) (et_not (a := true) (et_B (ev_cal (ea1 (ev_ixT (ev_var rfl) (ex_t e1 hs) (v := .ref c) rfl)) fun _ e => ⟨c, [some p, some q], rfl, ex_t (e1.trans e) hcs, (by show 2 ≤ 40000; decide), by rw [sv_of hsv]⟩))) fun _ => et_not (a := true) (et_B (ev_cal (ea1 (ev_ixT (ev_var rfl) (ex_t e1 hs) (v := vS n) rfl)) fun _ _ => ⟨n, rfl, by omega, by rw [hn]⟩))) rfl) (fun h => nomatch h) fun _ H2 e2 => ?_
    have e12 := e1.trans e2
    refine s_ret (ev_orV (a := false) (b := true) (ev_is (ev_op (ev_ixT (ev_var rfl) (ex_t e12 hs) (v := vS Mi.wCell) rfl) ev_c (rv_neS (b := Mi.wCell))) rfl) fun _ => ev_cal (ea3 (ev_ixT (ev_var rfl) (ex_t e12 hs) (v := vI t) rfl) ev_c ev_c) fun _ _ => ⟨some t, 0, 995, rfl, ?_⟩) fun H5 e5 => k H5 (e12.trans e5)
    show V.bl true = V.bl (decide ((0 : Int) ≤ (t : Int)) && decide ((t : Int) ≤ 995))
    rw [decide_eq_true (by omega), decide_eq_true (by omega)] <;> rfl
/-! ### is_answer -/
def noneT : Option Nat → Mi.Tx
  | none => [110, 111, 110, 101]
  | some n => TL.numL n
/-- the answers that a question can have, as values and as texts -/
def AnsOk (q : Mi.Qn) (v : V) (t : Mi.Tx) : Prop := match q with
  | .there _ _ _ => ∃ b : Bool, v = .bl b ∧ t = if b = true then [121, 101, 115] else [110, 111]
  | _ => ∃ o : Option Nat, v = oV o ∧ (∀ n, o = some n → n ≤ 996) ∧ t = noneT o
def p_is_answer : List V → Hp → V → Prop := fun vs H v => ∃ (x y : V) (q : Mi.Qn) (t : Mi.Tx), vs = [x, y] ∧ Dt K H x (.tuple q.py) ∧ AnsOk q y t ∧ v = .bl true
abbrev N_is_answer : List Str := ["question", "value"]
theorem S_is_answer : FnScope N_is_answer ["question", "value"] (defScope (top 34)) := ⟨rfl, rfl, rfl, by decide +kernel, rfl, by decide +kernel, by decide +kernel⟩
theorem B_is_answer (kV doc pm : Value) (an : Option Addr) (cdv ct : Value) (us : List Value) (hl : us.length = (["question", "value"] : List Str).length) : bindArgs (PySem.W.fnOf "is_answer" "is_answer" (defArgs (top 34)) (defBody (top 34)) (defScope (top 34)) .none kV doc pm an cdv ct) ⟨us, []⟩ = pure ((["question", "value"] : List Str).zip us) := match us, hl with | [_, _], _ => rfl
theorem ty_ans {H : Hp} {o : Option Nat} : TyX K H (oV o) (.type (match o with | none => "NoneType" | some _ => "int")) := by
  cases o with
  | none => exact ty_non
  | some n => exact ty_int
theorem inR_ok {o : Option Nat} (h : ∀ n, o = some n → n ≤ 996) : (decide (oV o = .non) || inR o 0 996) = true := by
  cases o with
  | none => rfl
  | some n =>
    have := h n rfl
    show (decide (vI n = .non) || (decide ((0 : Int) ≤ (n : Int)) && decide ((n : Int) ≤ 996))) = true
    rw [show decide ((0 : Int) ≤ (n : Int)) = true from decide_eq_true (by omega), show decide ((n : Int) ≤ 996) = true from decide_eq_true (by omega)]
    simp
theorem c_is_answer (D : DefOk K mg "is_answer" (top 34)) (G : Gb mg) (c_is_cell : C8.Cal P w K mg base 3 "is_cell" (Spv p_is_cell) []) : C8.Cal P w K mg base 4 "is_answer" (Spv (p_is_answer (K := K))) [] := cal_of D S_is_answer B_is_answer (fun vs H Q E h => by obtain ⟨v, ⟨a, b, c, d, rfl, _⟩, _⟩ := h; rfl) fun f cdv A outer s H vs Q E hr h => by
  refine ⟨_, (pss_cons (ps_if (pt_cmpR op_eq (pe_ix ix_tup (pv 0) pe_int (fun _ _ => rfl)) (C8.pe_gc (by rfl) G.c_THERE) (nomark _)) (pss_one (ps_ret (pe_callB call_isi (by rfl) G.f_isinstance boot_isinstance (pa_cons (pv 1) (pa_cons (pe_bltn (v := .ty "bool") (by rfl) G.f_bool boot_bool rfl) pa_nil))))) pss_nil)
  (pss_one (ps_ret (pe_or (pe_cmpR op_isN (pv 1) pe_non (nomark _)) (pe_one (C8.pe_c c_is_cell hr (by decide) (by rfl) (pa_cons (pv 1) pa_nil))))))), ?_⟩
  obtain ⟨_, ⟨x, y, q, t, rfl, hx, ha, rfl⟩, k⟩ := h
  cases q with
  | there p q n =>
    obtain ⟨a, c, rfl, hs, hcs⟩ := inv_there hx
    obtain ⟨b, rfl, _⟩ := ha
    refine q_when (b := true) (et_is (et_op (ev_ixT (ev_var rfl) hs (v := vS Mi.wThere) rfl) ev_c (rv_eqS (b := Mi.wThere))) rfl) (fun _ H1 e1 => ?_) (fun h => nomatch h)
    exact s_ret (ev_isi (b := true) (ev_var rfl) (fun _ _ => ty_bl) (by decide +kernel)) fun H2 e2 => k H2 (e1.trans e2)
  | length p q n =>
    obtain ⟨a, c, rfl, hs, hcs⟩ := inv_there hx
    obtain ⟨o, rfl, ho, _⟩ := ha
    refine q_when (b := false) (et_is (et_op (ev_ixT (ev_var rfl) hs (v := vS Mi.wLength) rfl) ev_c (rv_eqS (b := Mi.wThere))) rfl) (fun h => nomatch h) (fun _ H1 e1 => ?_)
    exact s_ret (ev_is (ev_orV (ev_op (ev_var rfl) ev_c rv_isN) fun _ => ev_cal (ea1 (ev_var rfl)) fun _ _ => ⟨o, rfl, rfl⟩) (congrArg V.bl (inR_ok ho))) fun H2 e2 => k H2 (e1.trans e2)
  | cell p q n t =>
    obtain ⟨a, c, rfl, hs, hcs⟩ := inv_cell hx
    obtain ⟨o, rfl, ho, _⟩ := ha
    refine q_when (b := false) (et_is (et_op (ev_ixT (ev_var rfl) hs (v := vS Mi.wCell) rfl) ev_c (rv_eqS (b := Mi.wThere))) rfl) (fun h => nomatch h) (fun _ H1 e1 => ?_)
    exact s_ret (ev_is (ev_orV (ev_op (ev_var rfl) ev_c rv_isN) fun _ => ev_cal (ea1 (ev_var rfl)) fun _ _ => ⟨o, rfl, rfl⟩) (congrArg V.bl (inR_ok ho))) fun H2 e2 => k H2 (e1.trans e2)
/-! ### require_question -/
def p_require_question : List V → Hp → V → Prop := fun vs H v => ∃ (x : V) (q : Mi.Qn), vs = [x] ∧ Dt K H x (.tuple q.py) ∧ q.ok ∧ v = .non
abbrev N_require_question : List Str := ["value"]
theorem S_require_question : FnScope N_require_question ["value"] (defScope (top 35)) := ⟨rfl, rfl, rfl, by decide +kernel, rfl, by decide +kernel, by decide +kernel⟩
theorem B_require_question (kV doc pm : Value) (an : Option Addr) (cdv ct : Value) (us : List Value) (hl : us.length = (["value"] : List Str).length) : bindArgs (PySem.W.fnOf "require_question" "require_question" (defArgs (top 35)) (defBody (top 35)) (defScope (top 35)) .none kV doc pm an cdv ct) ⟨us, []⟩ = pure ((["value"] : List Str).zip us) := match us, hl with | [_], _ => rfl
theorem c_require_question (D : DefOk K mg "require_question" (top 35)) (c_is_question : C8.Cal P w K mg base 4 "is_question" (Spv (p_is_question (K := K))) []) : C8.Cal P w K mg base 5 "require_question" (Spv (p_require_question (K := K))) [] := cal_of D S_require_question B_require_question (fun vs H Q E h => by obtain ⟨v, ⟨a, o, rfl, _⟩, _⟩ := h; rfl) fun f cdv A outer s H vs Q E hr h => by
  refine ⟨_, (pss_one (ps_if (pt_not (pt_val (C8.pe_c c_is_question hr (by decide) (by rfl) (pa_cons (pv 0) pa_nil)))) (pss_one ps_dead) pss_nil)), ?_⟩
  obtain ⟨_, ⟨x, d, rfl, hx, hd, rfl⟩, k⟩ := h
  exact s_when (b := false) (et_not (a := true) (et_B (ev_cal (ea1 (ev_var rfl)) fun _ e => ⟨x, d, rfl, hx.ex e, hd, rfl⟩))) (fun h => nomatch h) fun _ H1 e1 => k H1 e1
end
end K9
set_option Elab.async false
set_option linter.all false
set_option maxRecDepth 100000
set_option maxHeartbeats 4000000
namespace K9
open PySem PySem.Spec PyProof.Rows L2 Evl
/-! ### texts -/
section
variable {K : PySem.W.Frag} {σ : L2.St} {H H' : Hp} {ta tb te tx : TE} {t u : TT} {x y z v : V}
theorem ev_fmtI {n : Nat} (h : Ev te σ H (vI n)) (hz : n < 2 ^ 64) : Ev (tFmt te) σ H (vS (TL.numL n)) := fun H1 e Q q =>
  h H1 e _ fun H2 e2 => .inr ⟨(n : Int), rfl, log_small hz, by
    have e0 : (Str.ofString (toString (n : Int))) = Mi.S (TL.numL n) := SX.num_S n
    have q2 := q H2 e2
    rw [show vS (TL.numL n) = V.str (Mi.S (TL.numL n)) from rfl, ← e0] at q2
    exact q2⟩
theorem ev_js3 {t1 t2 t3 : TE} {a b c : Mi.Tx} (h1 : Ev t1 σ H (vS a)) (h2 : Ev t2 σ H (vS b)) (h3 : Ev t3 σ H (vS c)) (hz : (a ++ b ++ c).length ≤ 100000) : Ev (fun σ H Q => tJs [t1, t2, t3] Str.empty σ H fun out H1 => Q (.str out) H1) σ H (vS (a ++ b ++ c)) := fun H1 e Q q => by
  have z0 : Str.empty ++ Mi.S a = Mi.S a := SX.S_cat [] a
  have z1 : Str.empty ++ Mi.S a ++ Mi.S b = Mi.S (a ++ b) := by rw [z0, SX.S_cat]
  have z2 : Str.empty ++ Mi.S a ++ Mi.S b ++ Mi.S c = Mi.S (a ++ b ++ c) := by rw [z1, SX.S_cat]
  have l2 : (a ++ b).length ≤ 100000 := by rw [List.length_append] at hz; omega
  have l1 : a.length ≤ 100000 := by rw [List.length_append] at l2; omega
  refine h1 H1 e _ fun H2 e2 => ⟨_, rfl, ?_, h2 H2 (e.trans e2) _ fun H3 e3 => ⟨_, rfl, ?_, h3 H3 ((e.trans e2).trans e3) _ fun H4 e4 => ⟨_, rfl, ?_, ?_⟩⟩⟩
  · rw [z0, SX.S_len]
    exact sz_of l1
  · rw [z1, SX.S_len]
    exact sz_of l2
  · rw [z2, SX.S_len]
    exact sz_of hz
  · show Q (.str (Str.empty ++ Mi.S a ++ Mi.S b ++ Mi.S c)) H4
    rw [z2]
    exact q H4 ((e2.trans e3).trans e4)
theorem join_ok {c : Nat} {ws : List Mi.Tx} (hb : (ws.map List.length).sum + ws.length ≤ 100000) : ((ws.map Mi.S).map (·.length)).sum + (ws.map Mi.S).length * (Mi.S [c]).length ≤ 16777216 := by
  rw [SX.lens, List.length_map, SX.S_len, List.length_singleton, Nat.mul_one]
  exact Nat.le_trans hb (by decide)
theorem map_vS (ws : List Mi.Tx) : (ws.map Mi.S).map V.str = ws.map vS := by rw [List.map_map] <;> rfl
theorem ev_join {c : Nat} {ws : List Mi.Tx} (h : Ev ta σ H (vS [c])) (h2 : EvL te σ H (ws.map vS)) (hb : (ws.map List.length).sum + ws.length ≤ 100000) :
    Ev (tM1 (fun x xs H Q => ∃ a p, ∃ ys : List Str, x = .str a ∧ xs = [.ref p] ∧ (SqL K H p (ys.map V.str) ∨ SqT K H p (ys.map V.str)) ∧ (ys.map (·.length)).sum + ys.length * a.length ≤ 16777216 ∧ Q (.str (Txt.join a ys)) H) ta te) σ H (vS (TL.joinL [c] ws)) := fun H1 e Q q =>
  h H1 e _ fun H2 e2 => ⟨⟨_, rfl⟩, h2 H2 (e.trans e2) _ fun p H3 hp e3 h3 => ⟨_, p, ws.map Mi.S, rfl, rfl, .inl (by rw [map_vS]; exact sq_of h3), join_ok hb, by
    rw [SX.join_S]
    exact q H3 (e2.trans e3)⟩⟩
theorem ev_joinV {c : Nat} {ws : List Mi.Tx} {p : Addr} (h : Ev ta σ H (vS [c])) (h2 : Ev te σ H (.ref p)) (hs : SqL K H p (ws.map vS)) (hb : (ws.map List.length).sum + ws.length ≤ 100000) :
    Ev (tM1 (fun x xs H Q => ∃ a p, ∃ ys : List Str, x = .str a ∧ xs = [.ref p] ∧ (SqL K H p (ys.map V.str) ∨ SqT K H p (ys.map V.str)) ∧ (ys.map (·.length)).sum + ys.length * a.length ≤ 16777216 ∧ Q (.str (Txt.join a ys)) H) ta te) σ H (vS (TL.joinL [c] ws)) := fun H1 e Q q =>
  h H1 e _ fun H2 e2 => ⟨⟨_, rfl⟩, h2 H2 (e.trans e2) _ fun H3 e3 => ⟨_, p, ws.map Mi.S, rfl, rfl, .inl (by rw [map_vS]; exact ex_l ((e.trans e2).trans e3) hs), join_ok hb, by
    rw [SX.join_S]
    exact q H3 (e2.trans e3)⟩⟩
theorem rv_catS {a b : Mi.Tx} (hz : a.length + b.length ≤ 100000) : RV (fun x y H Q => ∃ i j, x = .str i ∧ y = .str j ∧ i.length + j.length ≤ sizeLine ∧ Q (.str (i ++ j)) H) (vS a) (vS b) H (vS (a ++ b)) := rv_val fun H1 _ Q q => ⟨_, _, rfl, rfl, by
  rw [SX.S_len, SX.S_len]
  exact sz_of hz, by
  rw [SX.S_cat]
  exact q⟩
theorem ev_cat {a b : Mi.Tx} (h : Ev ta σ H (vS a)) (h2 : Ev tb σ H (vS b)) (hz : a.length + b.length ≤ 100000) : Ev (tOp (fun x y H Q => ∃ i j, x = .str i ∧ y = .str j ∧ i.length + j.length ≤ sizeLine ∧ Q (.str (i ++ j)) H) ta tb) σ H (vS (a ++ b)) := ev_op h h2 (rv_catS hz)
theorem small_num {n : Nat} (h : n ≤ 996) : n < 2 ^ 64 := Nat.lt_of_le_of_lt h (by decide)
theorem joinL_snoc {S : Mi.Tx} : ∀ {ps : List Mi.Tx} {x : Mi.Tx}, ps ≠ [] → TL.joinL S (ps ++ [x]) = TL.joinL S ps ++ (S ++ x)
  | [], _, h => absurd rfl h
  | [p], x, _ => rfl
  | p :: q :: r, x, _ => by
    show p ++ (S ++ TL.joinL S ((q :: r) ++ [x])) = (p ++ (S ++ TL.joinL S (q :: r))) ++ (S ++ x)
    rw [joinL_snoc (by simp)]
    simp only [List.append_assoc]
theorem joinL_len {c : Nat} : ∀ (ps : List Mi.Tx), (TL.joinL [c] ps).length ≤ (ps.map List.length).sum + ps.length
  | [] => Nat.zero_le _
  | [p] => by
    show p.length ≤ _
    simp
  | p :: q :: r => by
    show (p ++ ([c] ++ TL.joinL [c] (q :: r))).length ≤ _
    have := joinL_len (c := c) (q :: r)
    simp only [List.length_append, List.map_cons, List.sum_cons, List.length_cons, List.length_nil] at *
    omega
theorem cellsW_len {cs : List Nat} (h : Mi.cellsOk cs) : (Mi.cellsW cs).length ≤ 192 := by
  unfold Mi.cellsW
  by_cases e : cs = []
  · rw [if_pos e]
    decide
  · rw [if_neg e]
    have h1 := joinL_len (c := 44) (cs.map TL.numL)
    have h2 : ∀ l : List Nat, (∀ c ∈ l, c ≤ 996) → ((l.map TL.numL).map List.length).sum ≤ 3 * l.length := by
      intro l
      induction l with
      | nil => intro _; simp
      | cons c l ih =>
        intro h
        have a := Mi.numL_short (h c List.mem_cons_self)
        have b := ih fun d hd => h d (List.mem_cons_of_mem _ hd)
        simp only [List.map_cons, List.sum_cons, List.length_cons]
        omega
    have h3 := h2 cs h.2
    have h4 := h.1
    rw [List.length_map] at h1
    omega
theorem nums_sum {cs : List Nat} (h : Mi.cellsOk cs) : ((cs.map TL.numL).map List.length).sum + (cs.map TL.numL).length ≤ 100000 := by
  have h2 : ∀ l : List Nat, (∀ c ∈ l, c ≤ 996) → ((l.map TL.numL).map List.length).sum ≤ 3 * l.length := by
    intro l
    induction l with
    | nil => intro _; simp
    | cons c l ih =>
      intro h
      have a := Mi.numL_short (h c List.mem_cons_self)
      have b := ih fun d hd => h d (List.mem_cons_of_mem _ hd)
      simp only [List.map_cons, List.sum_cons, List.length_cons]
      omega
  have h3 := h2 cs h.2
  have h4 := h.1
  rw [List.length_map]
  omega
/-- for over a new tuple -/
theorem s_forNT {D : Ends} {tu : TS} {g : TG} {xs : List V} {tl : TE} (h : EvU tl σ H xs) (Pv : Addr → Nat → L2.St → Hp → Prop) (h0 : ∀ p H1, H p = none → Ex H H1 → H1 p = some (.tup xs) → Pv p 0 σ H1) (hl : ∀ p i σ' H', i ≤ xs.length → Pv p i σ' H' → SqT K H' p xs)
    (hs : ∀ p i x σ' H', xs[i]? = some x → Pv p i σ' H' → g x σ' H' fun σ2 H2 => tu { D with nx := Pv p (i + 1), ct := Pv p (i + 1), bk := D.nx } σ2 H2) (hd : ∀ p σ' H', Pv p xs.length σ' H' → D.nx σ' H') : tFor (iTup K tl) g tu D σ H :=
  h H (Ex.refl H) _ fun p H1 hp e h1 => ⟨p, rfl, ⟨xs, st_of h1⟩, for_tup (Pv p) (h0 p H1 hp e h1) (hl p) (hs p) (hd p)⟩
theorem q_forNT {D : Ends} {tu tz : TS} {g : TG} {xs : List V} {tl : TE} (h : EvU tl σ H xs) (Pv : Addr → Nat → L2.St → Hp → Prop) (h0 : ∀ p H1, H p = none → Ex H H1 → H1 p = some (.tup xs) → Pv p 0 σ H1) (hl : ∀ p i σ' H', i ≤ xs.length → Pv p i σ' H' → SqT K H' p xs)
    (hs : ∀ p i x σ' H', xs[i]? = some x → Pv p i σ' H' → g x σ' H' fun σ2 H2 => tu { D with nx := Pv p (i + 1), ct := Pv p (i + 1), bk := tz D } σ2 H2) (hd : ∀ p σ' H', Pv p xs.length σ' H' → tz D σ' H') : tSeq (tFor (iTup K tl) g tu) tz D σ H :=
  s_forNT (D := { D with nx := tz D }) h Pv h0 hl hs hd
end
section
variable {P : Program} {w : World} {K : PySem.W.Frag} {mg : Str → Option Value} {base : Heap}
variable {aW aS aC aD aQ : Addr} {fS fC fD fQ : Str → Option V}
/-! ### save_text -/
def p_save_text : List V → Hp → V → Prop := fun vs H v => ∃ (p : Addr) (a b : Nat), vs = [.ref p] ∧ SqT K H p [vI a, vI b] ∧ a ≤ 996 ∧ b ≤ 996 ∧ v = vS (Mi.saveW a b)
abbrev N_save_text : List Str := ["save"]
theorem S_save_text : FnScope N_save_text ["save"] (defScope (top 48)) := ⟨rfl, rfl, rfl, by decide +kernel, rfl, by decide +kernel, by decide +kernel⟩
theorem B_save_text (kV doc pm : Value) (an : Option Addr) (cdv ct : Value) (us : List Value) (hl : us.length = (["save"] : List Str).length) : bindArgs (PySem.W.fnOf "save_text" "save_text" (defArgs (top 48)) (defBody (top 48)) (defScope (top 48)) .none kV doc pm an cdv ct) ⟨us, []⟩ = pure ((["save"] : List Str).zip us) := match us, hl with | [_], _ => rfl
theorem c_save_text (D : DefOk K mg "save_text" (top 48)) (G : Gb mg) : C8.Cal P w K mg base 1 "save_text" (Spv (p_save_text (K := K))) [] := cal_of D S_save_text B_save_text (fun vs H Q E h => by obtain ⟨v, ⟨a, b, c, rfl, _⟩, _⟩ := h; rfl) fun f cdv A outer s H vs Q E hr h => by
  refine ⟨_, (pss_one (ps_ret (pe_ifExp (pt_cmpR op_notN (pv 0) pe_non (nomark _)) (pe_joined (.cons (pe_fmt (pe_ix ix_tup (pv 0) pe_int (fun _ _ => rfl))) (.cons pe_str (.cons (pe_fmt (pe_ix ix_tup (pv 0) pe_int (fun _ _ => rfl))) .nil)))) (C8.pe_gc (by rfl) G.c_NOTHING)))), ?_⟩
  obtain ⟨_, ⟨p, a, b, rfl, hs, ha, hb, rfl⟩, k⟩ := h
  have l1 := Mi.numL_short ha
  have l2 := Mi.numL_short hb
  refine s_ret (ev_if (b := true) (et_op (ev_var rfl) ev_c rv_notN) (fun _ => ev_is (ev_js3 (a := TL.numL a) (b := [46]) (c := TL.numL b) (ev_fmtI (ev_ixT (ev_var rfl) hs rfl) (small_num ha)) ev_c (ev_fmtI (ev_ixT (ev_var rfl) hs rfl) (small_num hb)) (by rw [List.length_append, List.length_append, List.length_singleton]; omega)) ?_) fun h => nomatch h) k
  unfold Mi.saveW
  rw [List.append_assoc] <;> rfl
/-! ### cells_text -/
def p_cells_text : List V → Hp → V → Prop := fun vs H v => ∃ (p : Addr) (cs : List Nat), vs = [.ref p] ∧ SqT K H p (cs.map vI) ∧ Mi.cellsOk cs ∧ v = vS (Mi.cellsW cs)
abbrev N_cells_text : List Str := ["cells", "cell"]
theorem S_cells_text : FnScope N_cells_text ["cells"] (defScope (top 49)) := ⟨rfl, rfl, rfl, by decide +kernel, rfl, by decide +kernel, by decide +kernel⟩
theorem B_cells_text (kV doc pm : Value) (an : Option Addr) (cdv ct : Value) (us : List Value) (hl : us.length = (["cells"] : List Str).length) : bindArgs (PySem.W.fnOf "cells_text" "cells_text" (defArgs (top 49)) (defBody (top 49)) (defScope (top 49)) .none kV doc pm an cdv ct) ⟨us, []⟩ = pure ((["cells"] : List Str).zip us) := match us, hl with | [_], _ => rfl
theorem c_cells_text (D : DefOk K mg "cells_text" (top 49)) (G : Gb mg) : C8.Cal P w K mg base 1 "cells_text" (Spv (p_cells_text (K := K))) [] := cal_of D S_cells_text B_cells_text (fun vs H Q E h => by obtain ⟨v, ⟨a, b, rfl, _⟩, _⟩ := h; rfl) fun f cdv A outer s H vs Q E hr h => by
  refine ⟨_, (pss_one (ps_ret (pe_ifExp (pt_cmpR (op_neD hr.units) (pv 0) (pe_tup pa_nil) (nomark _)) (pe_join pe_str (pe_lc (own := [("cell", 1)]) (g := gName 1) (tt := tYes) rfl S_cells_text.nd (pi_tup (pv 0)) (blkOk_by (N := N_cells_text) (sc := defScope (top 49)) (by decide +kernel)) (fun _ _ _ _ _ => pg_name (i := 1) S_cells_text.nd rfl (Or.inl rfl)) (fun _ _ _ _ _ => pts_nil) (fun _ _ _ _ _ => (pe_callTy call_str_int (by rfl) G.f_str boot_str (pa_cons (pv 1) pa_nil))))) (C8.pe_gc (by rfl) G.c_NOTHING)))), ?_⟩
  obtain ⟨_, ⟨p, cs, rfl, hs, hc, rfl⟩, k⟩ := h
  refine s_ret (ev_if (b := !cs.isEmpty) (et_is (et_test (ev_neNilT (ev_var rfl) (dt_cells hs) (shp_dC 0 cs))) (by rw [List.isEmpty_map])) (fun hb => ?_) fun hb => ?_) k
  · have e : Mi.cellsW cs = TL.joinL [44] (cs.map TL.numL) := by
      unfold Mi.cellsW
      rw [if_neg (by intro e; subst e; cases hb)]
    rw [e]
    exact ev_join ev_c (el_eq (el_tup (fun _ => true) (fun c => vS (TL.numL c)) (ev_var rfl) hs (by have := hc.1; omega) (fun _ => rfl) (fun _ _ _ _ => et_yes) fun c hm _ H2 e2 => ev_strI (ev_var rfl) (small_num (hc.2 c hm))) made_map) (nums_sum hc)
  · have e : Mi.cellsW cs = [45] := by
      cases cs with
      | nil => rfl
      | cons _ _ => cases hb
    rw [e]
    exact ev_c
/-! ### text_by -/
/-- a part and its word: q: of a question -/
def PW1 (q : Bool) (d : PyData) (t : Mi.Tx) : Prop := (∃ w : Mi.Tx, d = Mi.dS w ∧ t = w ∧ w.length ≤ 4) ∨ (∃ n : Nat, d = Mi.dI n ∧ t = TL.numL n ∧ n ≤ 996) ∨ (q = false ∧ ∃ cs, Mi.cellsOk cs ∧ d = Mi.dC cs ∧ t = Mi.cellsW cs) ∨ (q = true ∧ ∃ a b, Mi.saveOk a b ∧ d = .tuple [Mi.dI a, Mi.dI b] ∧ t = Mi.saveW a b)
theorem pw_len {q : Bool} {d : PyData} {t : Mi.Tx} (h : PW1 q d t) : t.length ≤ 200 := by
  rcases h with ⟨w, _, rfl, h⟩ | ⟨n, _, rfl, h⟩ | ⟨_, cs, h, _, rfl⟩ | ⟨_, a, b, h, _, rfl⟩
  · omega
  · have := Mi.numL_short h
    omega
  · have := cellsW_len h
    omega
  · have h1 := Mi.numL_short h.1.2
    have h2 := Mi.numL_short h.2.2
    unfold Mi.saveW
    rw [List.length_append, List.length_cons]
    omega
def PWs (q : Bool) : List PyData → List Mi.Tx → Prop
  | [], [] => True
  | d :: ds, t :: ts => PW1 q d t ∧ PWs q ds ts
  | _, _ => False
theorem PWs.len : ∀ {q : Bool} {ds : List PyData} {ts : List Mi.Tx}, PWs q ds ts → ds.length = ts.length
  | _, [], [], _ => rfl
  | _, d :: ds, t :: ts, h => congrArg Nat.succ (PWs.len h.2)
  | _, [], _ :: _, h => h.elim
  | _, _ :: _, [], h => h.elim
theorem PWs.sum : ∀ {q : Bool} {ds : List PyData} {ts : List Mi.Tx}, PWs q ds ts → (ts.map List.length).sum ≤ 200 * ts.length
  | _, [], [], _ => Nat.zero_le _
  | _, d :: ds, t :: ts, h => by
    have h1 := pw_len h.1
    have h2 := PWs.sum h.2
    simp only [List.map_cons, List.sum_cons, List.length_cons]
    omega
  | _, [], _ :: _, h => h.elim
  | _, _ :: _, [], h => h.elim
theorem PWs.get : ∀ {q : Bool} {ds : List PyData} {ts : List Mi.Tx} {i : Nat} {d : PyData}, PWs q ds ts → ds[i]? = some d → ∃ t, ts[i]? = some t ∧ PW1 q d t
  | _, [], [], _, _, _, e => by simp at e
  | _, d :: ds, t :: ts, 0, _, h, e => by
    simp at e
    subst e
    exact ⟨t, rfl, h.1⟩
  | _, d :: ds, t :: ts, i + 1, _, h, e => by
    obtain ⟨u, h1, h2⟩ := PWs.get (i := i) h.2 (by simpa using e)
    exact ⟨u, by simpa using h1, h2⟩
  | _, [], _ :: _, _, _, h, _ => h.elim
  | _, _ :: _, [], _, _, h, _ => h.elim
def p_text_by : List V → Hp → V → Prop := fun vs H v => ∃ (x : V) (w0 : Mi.Tx) (q : Bool) (ds : List PyData) (ts : List Mi.Tx), vs = [x] ∧ Dt K H x (.tuple (Mi.dS w0 :: ds)) ∧ PWs q ds ts ∧ (fQ (Mi.S w0)).isSome = q ∧ ts.length ≤ 10 ∧ w0.length ≤ 10 ∧ v = vS (TL.joinL [32] (w0 :: ts))
abbrev N_text_by : List Str := ["told", "words", "part", "is_save"]
theorem S_text_by : FnScope N_text_by ["told"] (defScope (top 56)) := ⟨rfl, rfl, rfl, by decide +kernel, rfl, by decide +kernel, by decide +kernel⟩
theorem B_text_by (kV doc pm : Value) (an : Option Addr) (cdv ct : Value) (us : List Value) (hl : us.length = (["told"] : List Str).length) : bindArgs (PySem.W.fnOf "text_by" "text_by" (defArgs (top 56)) (defBody (top 56)) (defScope (top 56)) .none kV doc pm an cdv ct) ⟨us, []⟩ = pure ((["told"] : List Str).zip us) := match us, hl with | [_], _ => rfl
theorem cut1 (x : V) (xs : List V) : cutV (x :: xs) (some 1) none = xs := by
  unfold cutV
  show (((x :: xs).drop (min 1 (x :: xs).length)).take ((x :: xs).length - min 1 (x :: xs).length)) = xs
  rw [show min 1 (x :: xs).length = 1 by simp [List.length_cons]]
  simp
theorem c_text_by (D : DefOk K mg "text_by" (top 56)) (G : Gb mg) (T : Tb K w mg aW aS aC aD aQ fS fC fD fQ) (c_save_text : C8.Cal P w K mg base 1 "save_text" (Spv (p_save_text (K := K))) []) (c_cells_text : C8.Cal P w K mg base 1 "cells_text" (Spv (p_cells_text (K := K))) []) : C8.Cal P w K mg base 2 "text_by" (Spv (p_text_by (K := K) (fQ := fQ))) [] := cal_of D S_text_by B_text_by (fun vs H Q E h => by obtain ⟨v, ⟨a, b, c, d, e, rfl, _⟩, _⟩ := h; rfl) fun f cdv A outer s H vs Q E hr h => by
  refine ⟨_, (pss_cons (ps_set (i := 1) S_text_by.nd rfl (by first | exact Or.inl rfl | exact Or.inr rfl) (pe_lst (pa_cons (pe_ix ix_tup (pv 0) pe_int (fun _ _ => rfl)) pa_nil)))
  (pss_cons (ps_for PassesOwn.never rfl (pi_tup (pe_slice sl_tupA (pv 0) (po_some pe_int) po_none)) (pg_name (i := 2) S_text_by.nd rfl (by first | exact Or.inl rfl | exact Or.inr rfl)) (pss_one (ps_if (pt_val (pe_callB call_isi (by rfl) G.f_isinstance boot_isinstance (pa_cons (pv 2) (pa_cons (pe_bltn (v := .ty "tuple") (by rfl) G.f_tuple boot_tuple rfl) pa_nil)))) (pss_cons (ps_set (i := 3) S_text_by.nd rfl (by first | exact Or.inl rfl | exact Or.inr rfl) (pe_cmpR (op_inW T.D_QUESTIONS) (pe_ix ix_tup (pv 0) pe_int (fun _ _ => rfl)) (C8.pe_gc (by rfl) T.c_QUESTIONS) (by with_unfolding_all rfl)))
      (pss_one (ps_expr (pe_bm PySem.F.plainAttrs_list PySem.F.slot_list_append PySem.F.type_list_append mt_append (pv 1) (pa_cons (pe_ifExp (pt_val (pv 3)) (C8.pe_c c_save_text hr (by decide) (by rfl) (pa_cons (pv 2) pa_nil)) (C8.pe_c c_cells_text hr (by decide) (by rfl) (pa_cons (pv 2) pa_nil))) pa_nil))))) (pss_one (ps_expr (pe_bm PySem.F.plainAttrs_list PySem.F.slot_list_append PySem.F.type_list_append mt_append (pv 1) (pa_cons (pe_callTy (call_str_int.or SkE.call_str_str) (by rfl) G.f_str boot_str (pa_cons (pv 2) pa_nil)) pa_nil)))))))
  (pss_one (ps_ret (pe_join pe_str (pv 1)))))), ?_⟩
  obtain ⟨_, ⟨x, w0, q, ds, ts, rfl, hx, hp, hq, hl, hw0, rfl⟩, k⟩ := h
  obtain ⟨a, xs0, rfl, hs, hd0⟩ := Dt.tup_inv hx
  obtain ⟨xs, exs, hd⟩ : ∃ ys, xs0 = vS w0 :: ys ∧ DtAll K H ys ds := by
    cases hd0 with
    | cons h1 h2 => exact ⟨_, by rw [Dt.str_inv h1], h2⟩
  subst exs
  have hlx : xs.length = ts.length := hd.length.trans hp.len
  refine q_asgL (el_lst (ea1 (ev_ixT (ev_var rfl) hs (v := vS w0) (atI_nat (j := 0) rfl))) (show 1 ≤ 100000 from by decide)) fun l H1 hl1 e1 h1 => ?_
  refine q_forNT (xs := xs) (by
    have q := eu_sl (K := K) (σ := (start N_text_by [V.ref a]).set 1 (some (.ref l))) (ta := tVar 0) (i := 1) (ev_var rfl) (ex_t e1 hs) (fun h => absurd (show min 1 (vS w0 :: xs).length = 0 from h.1) (by simp [List.length_cons]))
    rw [cut1] at q
    exact q) (fun p i σ' H' => Ex H H' ∧ H' p = some (.tup xs) ∧ H' l = some (.lst ((w0 :: ts.take i).map vS)) ∧ ∃ y z, σ' = [some (.ref a), some (.ref l), y, z]) (fun p H2 hp2 e2 h2 => ⟨e1.trans e2, h2, e2 l _ h1, _, _, rfl⟩) (fun p i σ' H' _ h => st_of h.2.1) ?_ ?_
  · rintro p i x σ' H2 hi ⟨e2, h2, h3, y, z, rfl⟩
    have hld : i < ds.length := by
      rw [← hd.length]
      exact (List.getElem?_eq_some_iff.mp hi).1
    obtain ⟨d, hdi⟩ : ∃ d, ds[i]? = some d := ⟨ds[i], by simp [hld]⟩
    obtain ⟨x', hx1, hx2⟩ := hd.get hdi
    rw [hi] at hx1
    cases hx1
    have hx3 := hx2.ex e2
    obtain ⟨t, ht, hpw⟩ := hp.get hdi
    have hnx : ∀ {H3 : Hp} {y z : Option V}, Ex H2 H3 → (Ex H (upd H3 l (.lst ((w0 :: ts.take i).map vS ++ [vS t]))) ∧ (upd H3 l (.lst ((w0 :: ts.take i).map vS ++ [vS t]))) p = some (.tup xs) ∧ (upd H3 l (.lst ((w0 :: ts.take i).map vS ++ [vS t]))) l = some (.lst ((w0 :: ts.take (i + 1)).map vS)) ∧ ∃ y' z', [some (V.ref a), some (V.ref l), y, z] = [some (V.ref a), some (V.ref l), y', z']) := fun {H3 y z} e3 => by
      refine ⟨Ex.mut (e2.trans e3) hl1, ?_, ?_, _, _, rfl⟩
      · rw [upd_ne (ne_of (e3 p _ h2) (e3 l _ h3) fun z => by cases z)]
        exact e3 p _ h2
      · rw [upd_same, snoc_take ht]
        simp
    have hz : ((w0 :: ts.take i).map vS).length < 100000 := by
      rw [List.length_map, List.length_cons, List.length_take]
      omega
    rcases hpw with ⟨w, rfl, rfl, hw⟩ | ⟨n, rfl, rfl, hn⟩ | ⟨rfl, cs, hc, rfl, rfl⟩ | ⟨rfl, m, n, hsv, rfl, rfl⟩
    · have e0 := Dt.str_inv hx3
      subst e0
      refine s_if (b := false) (et_B (ev_isi (b := false) (ev_var rfl) (fun _ _ => ty_str) (by decide +kernel))) (fun h => nomatch h) fun _ H3 e3 => ?_
      exact s_app (e3 l _ h3) (ev_var rfl) (ev_cb (ea1 (ev_var rfl)) fun H4 Q4 e4 q4 => .inr ⟨_, rfl, q4⟩) hz fun H4 e4 => hnx (e3.trans e4)
    · have e0 := Dt.int_inv hx3
      subst e0
      refine s_if (b := false) (et_B (ev_isi (b := false) (ev_var rfl) (fun _ _ => ty_int) (by decide +kernel))) (fun h => nomatch h) fun _ H3 e3 => ?_
      refine s_app (v := vS (TL.numL n)) (e3 l _ h3) (ev_var rfl) (ev_cb (ea1 (ev_var rfl)) fun H4 Q4 e4 q4 => .inl ⟨(n : Int), rfl, log_small (small_num hn), ?_⟩) hz fun H4 e4 => hnx (e3.trans e4)
      have e0 : (Str.ofString (toString (n : Int))) = Mi.S (TL.numL n) := SX.num_S n
      rw [show vS (TL.numL n) = V.str (Mi.S (TL.numL n)) from rfl, ← e0] at q4
      exact q4
    · obtain ⟨c, rfl, hcs⟩ := Dt.cells_inv hx3
      refine s_if (b := true) (et_B (ev_isi (b := true) (ev_var rfl) (fun _ e => ty_tup (ex_t e hcs)) (by decide +kernel))) (fun _ H3 e3 => ?_) (fun h => nomatch h)
      refine q_asg (ev_op (ev_ixT (ev_var rfl) (ex_t (e2.trans e3) hs) (v := vS w0) (atI_nat (j := 0) rfl)) ev_c rv_inW) fun H4 e4 => ?_
      have e34 := e3.trans e4
      rw [hq]
      exact s_app (e34 l _ h3) (ev_var rfl) (ev_if (b := false) (et_B (ev_var rfl)) (fun h => nomatch h) fun _ => ev_cal (ea1 (ev_var rfl)) fun _ e => ⟨c, cs, rfl, ex_t (e34.trans e) hcs, hc, rfl⟩) hz fun H5 e5 => hnx (e34.trans e5)
    · obtain ⟨c, rfl, hcs⟩ := inv_save hx3
      refine s_if (b := true) (et_B (ev_isi (b := true) (ev_var rfl) (fun _ e => ty_tup (ex_t e hcs)) (by decide +kernel))) (fun _ H3 e3 => ?_) (fun h => nomatch h)
      refine q_asg (ev_op (ev_ixT (ev_var rfl) (ex_t (e2.trans e3) hs) (v := vS w0) (atI_nat (j := 0) rfl)) ev_c rv_inW) fun H4 e4 => ?_
      have e34 := e3.trans e4
      rw [hq]
      exact s_app (e34 l _ h3) (ev_var rfl) (ev_if (b := true) (et_B (ev_var rfl)) (fun _ => ev_cal (ea1 (ev_var rfl)) fun _ e => ⟨c, m, n, rfl, ex_t (e34.trans e) hcs, hsv.1.2, hsv.2.2, rfl⟩) fun h => nomatch h) hz fun H5 e5 => hnx (e34.trans e5)
  · rintro p σ' H2 ⟨e2, h2, h3, y, z, rfl⟩
    rw [hlx, List.take_length] at h3
    refine s_ret (ev_joinV ev_c (ev_var rfl) (sq_of h3) ?_) fun H3 e3 => k H3 (e2.trans e3)
    have := hp.sum
    simp only [List.map_cons, List.sum_cons, List.length_cons]
    omega
end
end K9
set_option Elab.async false
set_option linter.all false
set_option maxRecDepth 100000
set_option maxHeartbeats 4000000
namespace K9
open PySem PySem.Spec PyProof.Rows L2 Evl
section
variable {P : Program} {w : World} {K : PySem.W.Frag} {mg : Str → Option Value} {base : Heap}
variable {aW aS aC aD aQ : Addr} {fS fC fD fQ : Str → Option V}
/-! ### deed_text, question_text, answer_text -/
theorem form_none {v : Option V} {fs : Option (List Nat)} (h : FormAt K v fs) : v.isSome = fs.isSome := by
  cases fs with
  | none =>
    have e : v = none := h
    rw [e] <;> rfl
  | some fs =>
    obtain ⟨a, e, _⟩ := h
    rw [e] <;> rfl
theorem dd_words {d : Mi.Dd} (h : d.ok) : ∃ w0 ds ts, d.py = Mi.dS w0 :: ds ∧ d.words = w0 :: ts ∧ PWs false ds ts ∧ w0.length ≤ 10 ∧ ts.length ≤ 10 ∧ (Mi.forms false w0).isSome = false := by
  cases d with
  | put n cs => exact ⟨_, _, _, rfl, rfl, ⟨.inl ⟨n, rfl, rfl, nm_len h.1⟩, .inr (.inr (.inl ⟨rfl, cs, h.2, rfl, rfl⟩)), trivial⟩, by decide, (by show 2 ≤ 10; decide), by decide +kernel⟩
  | patch n a b cs => exact ⟨_, _, _, rfl, rfl, ⟨.inl ⟨n, rfl, rfl, nm_len h.1⟩, .inr (.inl ⟨a, rfl, rfl, h.2.1⟩), .inr (.inl ⟨b, rfl, rfl, h.2.2.1⟩), .inr (.inr (.inl ⟨rfl, cs, h.2.2.2, rfl, rfl⟩)), trivial⟩, by decide, (by show 4 ≤ 10; decide), by decide +kernel⟩
  | drop n => exact ⟨_, _, _, rfl, rfl, ⟨.inl ⟨n, rfl, rfl, nm_len h⟩, trivial⟩, by decide, (by show 1 ≤ 10; decide), by decide +kernel⟩
  | rename n m => exact ⟨_, _, _, rfl, rfl, ⟨.inl ⟨n, rfl, rfl, nm_len h.1⟩, .inl ⟨m, rfl, rfl, nm_len h.2.1⟩, trivial⟩, by decide, (by show 2 ≤ 10; decide), by decide +kernel⟩
theorem qn_words {q : Mi.Qn} (h : q.ok) : ∃ w0 ds ts, q.py = Mi.dS w0 :: ds ∧ q.words = w0 :: ts ∧ PWs true ds ts ∧ w0.length ≤ 10 ∧ ts.length ≤ 10 ∧ (Mi.forms false w0).isSome = true := by
  cases q with
  | there a b n => exact ⟨_, _, _, rfl, rfl, ⟨.inr (.inr (.inr ⟨rfl, a, b, h.1, rfl, rfl⟩)), .inl ⟨n, rfl, rfl, nm_len h.2⟩, trivial⟩, by decide, (by show 2 ≤ 10; decide), by decide +kernel⟩
  | length a b n => exact ⟨_, _, _, rfl, rfl, ⟨.inr (.inr (.inr ⟨rfl, a, b, h.1, rfl, rfl⟩)), .inl ⟨n, rfl, rfl, nm_len h.2⟩, trivial⟩, by decide, (by show 2 ≤ 10; decide), by decide +kernel⟩
  | cell a b n t => exact ⟨_, _, _, rfl, rfl, ⟨.inr (.inr (.inr ⟨rfl, a, b, h.1, rfl, rfl⟩)), .inl ⟨n, rfl, rfl, nm_len h.2.1⟩, .inr (.inl ⟨t, rfl, rfl, Nat.le_succ_of_le h.2.2⟩), trivial⟩, by decide, (by show 3 ≤ 10; decide), by decide +kernel⟩
def p_deed_text : List V → Hp → V → Prop := fun vs H v => ∃ (x : V) (d : Mi.Dd), vs = [x] ∧ Dt K H x (.tuple d.py) ∧ d.ok ∧ v = vS d.text
abbrev N_deed_text : List Str := ["deed"]
theorem S_deed_text : FnScope N_deed_text ["deed"] (defScope (top 57)) := ⟨rfl, rfl, rfl, by decide +kernel, rfl, by decide +kernel, by decide +kernel⟩
theorem B_deed_text (kV doc pm : Value) (an : Option Addr) (cdv ct : Value) (us : List Value) (hl : us.length = (["deed"] : List Str).length) : bindArgs (PySem.W.fnOf "deed_text" "deed_text" (defArgs (top 57)) (defBody (top 57)) (defScope (top 57)) .none kV doc pm an cdv ct) ⟨us, []⟩ = pure ((["deed"] : List Str).zip us) := match us, hl with | [_], _ => rfl
theorem c_deed_text (D : DefOk K mg "deed_text" (top 57)) (T : Tb K w mg aW aS aC aD aQ fS fC fD fQ) (c_require_deed : C8.Cal P w K mg base 6 "require_deed" (Spv (p_require_deed (K := K))) []) (c_text_by : C8.Cal P w K mg base 2 "text_by" (Spv (p_text_by (K := K) (fQ := fQ))) []) : C8.Cal P w K mg base 7 "deed_text" (Spv (p_deed_text (K := K))) [] := cal_of D S_deed_text B_deed_text (fun vs H Q E h => by obtain ⟨v, ⟨a, o, rfl, _⟩, _⟩ := h; rfl) fun f cdv A outer s H vs Q E hr h => by
  refine ⟨_, (pss_cons (ps_expr (C8.pe_c c_require_deed hr (by decide) (by rfl) (pa_cons (pv 0) pa_nil)))
  (pss_one (ps_ret (C8.pe_c c_text_by hr (by decide) (by rfl) (pa_cons (pv 0) pa_nil))))), ?_⟩
  obtain ⟨_, ⟨x, d, rfl, hx, hd, rfl⟩, k⟩ := h
  obtain ⟨w0, ds, ts, h1, h2, h3, h4, h5, h6⟩ := dd_words hd
  refine q_drop (ev_cal (ea1 (ev_var rfl)) fun _ e => ⟨x, d, rfl, hx.ex e, hd, rfl⟩) fun H1 e1 => ?_
  exact s_ret (ev_cal (ea1 (ev_var rfl)) fun _ e => ⟨x, w0, false, ds, ts, rfl, by rw [← h1]; exact hx.ex (e1.trans e), h3, (form_none (T.quests w0)).trans h6, h5, h4, by unfold Mi.Dd.text; rw [h2]⟩) fun H2 e2 => k H2 (e1.trans e2)
def p_question_text : List V → Hp → V → Prop := fun vs H v => ∃ (x : V) (q : Mi.Qn), vs = [x] ∧ Dt K H x (.tuple q.py) ∧ q.ok ∧ v = vS q.text
abbrev N_question_text : List Str := ["question"]
theorem S_question_text : FnScope N_question_text ["question"] (defScope (top 58)) := ⟨rfl, rfl, rfl, by decide +kernel, rfl, by decide +kernel, by decide +kernel⟩
theorem B_question_text (kV doc pm : Value) (an : Option Addr) (cdv ct : Value) (us : List Value) (hl : us.length = (["question"] : List Str).length) : bindArgs (PySem.W.fnOf "question_text" "question_text" (defArgs (top 58)) (defBody (top 58)) (defScope (top 58)) .none kV doc pm an cdv ct) ⟨us, []⟩ = pure ((["question"] : List Str).zip us) := match us, hl with | [_], _ => rfl
theorem c_question_text (D : DefOk K mg "question_text" (top 58)) (T : Tb K w mg aW aS aC aD aQ fS fC fD fQ) (c_require_question : C8.Cal P w K mg base 5 "require_question" (Spv (p_require_question (K := K))) []) (c_text_by : C8.Cal P w K mg base 2 "text_by" (Spv (p_text_by (K := K) (fQ := fQ))) []) : C8.Cal P w K mg base 7 "question_text" (Spv (p_question_text (K := K))) [] := cal_of D S_question_text B_question_text (fun vs H Q E h => by obtain ⟨v, ⟨a, o, rfl, _⟩, _⟩ := h; rfl) fun f cdv A outer s H vs Q E hr h => by
  refine ⟨_, (pss_cons (ps_expr (C8.pe_c c_require_question hr (by decide) (by rfl) (pa_cons (pv 0) pa_nil)))
  (pss_one (ps_ret (C8.pe_c c_text_by hr (by decide) (by rfl) (pa_cons (pv 0) pa_nil))))), ?_⟩
  obtain ⟨_, ⟨x, d, rfl, hx, hd, rfl⟩, k⟩ := h
  obtain ⟨w0, ds, ts, h1, h2, h3, h4, h5, h6⟩ := qn_words hd
  refine q_drop (ev_cal (ea1 (ev_var rfl)) fun _ e => ⟨x, d, rfl, hx.ex e, hd, rfl⟩) fun H1 e1 => ?_
  exact s_ret (ev_cal (ea1 (ev_var rfl)) fun _ e => ⟨x, w0, true, ds, ts, rfl, by rw [← h1]; exact hx.ex (e1.trans e), h3, (form_none (T.quests w0)).trans h6, h5, h4, by unfold Mi.Qn.text; rw [h2]⟩) fun H2 e2 => k H2 (e1.trans e2)
def p_answer_text : List V → Hp → V → Prop := fun vs H v => ∃ (x y : V) (q : Mi.Qn) (t : Mi.Tx), vs = [x, y] ∧ Dt K H x (.tuple q.py) ∧ q.ok ∧ AnsOk q y t ∧ v = vS t
abbrev N_answer_text : List Str := ["question", "answer"]
theorem S_answer_text : FnScope N_answer_text ["question", "answer"] (defScope (top 59)) := ⟨rfl, rfl, rfl, by decide +kernel, rfl, by decide +kernel, by decide +kernel⟩
theorem B_answer_text (kV doc pm : Value) (an : Option Addr) (cdv ct : Value) (us : List Value) (hl : us.length = (["question", "answer"] : List Str).length) : bindArgs (PySem.W.fnOf "answer_text" "answer_text" (defArgs (top 59)) (defBody (top 59)) (defScope (top 59)) .none kV doc pm an cdv ct) ⟨us, []⟩ = pure ((["question", "answer"] : List Str).zip us) := match us, hl with | [_, _], _ => rfl
theorem ev_strO {σ : L2.St} {H : Hp} {te : TE} {o : Option Nat} {t : Mi.Tx} (h : Ev te σ H (oV o)) (ho : ∀ n, o = some n → n ≤ 996) (ht : t = noneT o) : Ev (tIf (tTest (tOp (fun x y H Q => y = .non ∧ Q (.bl (!decide (x = .non))) H) te (tC .non))) (tCB (fun xs H Q => ∃ i, xs = [.int i] ∧ i.natAbs.log2 < 1920 ∧ Q (.str (toString i)) H) (tCons te tNil)) (tC (.str "none"))) σ H (vS t) := by
  subst ht
  cases o with
  | none => exact ev_if (b := false) (et_op h ev_c rv_notN) (fun h => nomatch h) fun _ => ev_c
  | some n => exact ev_if (b := true) (et_op h ev_c rv_notN) (fun _ => ev_strI h (small_num (ho n rfl))) fun h => nomatch h
theorem ev_strO' {σ : L2.St} {H : Hp} {te : TE} {o : Option Nat} {t : Mi.Tx} (h : Ev te σ H (oV o)) (ho : ∀ n, o = some n → n ≤ 996) (ht : t = noneT o) : Ev (tIf (tTest (tOp (fun x y H Q => y = .non ∧ Q (.bl (decide (x = .non))) H) te (tC .non))) (tC (.str "none")) (tCB (fun xs H Q => ∃ i, xs = [.int i] ∧ i.natAbs.log2 < 1920 ∧ Q (.str (toString i)) H) (tCons te tNil))) σ H (vS t) := by
  subst ht
  cases o with
  | none => exact ev_if (b := true) (et_op h ev_c rv_isN) (fun _ => ev_c) fun h => nomatch h
  | some n => exact ev_if (b := false) (et_op h ev_c rv_isN) (fun h => nomatch h) fun _ => ev_strI h (small_num (ho n rfl))
theorem ev_yes {σ : L2.St} {H : Hp} {te : TE} {b : Bool} (h : Ev te σ H (.bl b)) : Ev (tIf (tB te) (tC (.str "yes")) (tC (.str "no"))) σ H (vS (if b = true then [121, 101, 115] else [110, 111])) := by
  cases b with
  | true => exact ev_if (b := true) (et_B h) (fun _ => ev_c) fun h => nomatch h
  | false => exact ev_if (b := false) (et_B h) (fun h => nomatch h) fun _ => ev_c
theorem c_answer_text (D : DefOk K mg "answer_text" (top 59)) (G : Gb mg) (c_require_question : C8.Cal P w K mg base 5 "require_question" (Spv (p_require_question (K := K))) []) (c_is_answer : C8.Cal P w K mg base 4 "is_answer" (Spv (p_is_answer (K := K))) []) : C8.Cal P w K mg base 6 "answer_text" (Spv (p_answer_text (K := K))) [] := cal_of D S_answer_text B_answer_text (fun vs H Q E h => by obtain ⟨v, ⟨a, b, c, d, rfl, _⟩, _⟩ := h; rfl) fun f cdv A outer s H vs Q E hr h => by
  refine ⟨_, (pss_cons (ps_expr (C8.pe_c c_require_question hr (by decide) (by rfl) (pa_cons (pv 0) pa_nil)))
  (pss_cons (ps_if (pt_not (pt_val (C8.pe_c c_is_answer hr (by decide) (by rfl) (pa_cons (pv 0) (pa_cons (pv 1) pa_nil))))) (pss_one ps_dead) pss_nil)
  (pss_cons (ps_if (pt_cmpR op_eq (pe_ix ix_tup (pv 0) pe_int (fun _ _ => rfl)) (C8.pe_gc (by rfl) G.c_THERE) (nomark _)) (pss_one (ps_ret (pe_ifExp (pt_val (pv 1)) pe_str pe_str))) pss_nil)
  (pss_one (ps_ret (pe_ifExp (pt_cmpR op_notN (pv 1) pe_non (nomark _)) (pe_callTy call_str_int (by rfl) G.f_str boot_str (pa_cons (pv 1) pa_nil)) pe_str)))))), ?_⟩
  obtain ⟨_, ⟨x, y, q, t, rfl, hx, hq, ha, rfl⟩, k⟩ := h
  refine q_drop (ev_cal (ea1 (ev_var rfl)) fun _ e => ⟨x, q, rfl, hx.ex e, hq, rfl⟩) fun H1 e1 => ?_
  refine q_when (b := false) (et_not (a := true) (et_B (ev_cal (ea2 (ev_var rfl) (ev_var rfl)) fun _ e => ⟨x, y, q, t, rfl, hx.ex (e1.trans e), ha, rfl⟩))) (fun h => nomatch h) fun _ H2 e2 => ?_
  have e12 := e1.trans e2
  cases q with
  | there p q n =>
    obtain ⟨a, c, rfl, hs, hcs⟩ := inv_there hx
    obtain ⟨b, rfl, rfl⟩ := ha
    refine q_when (b := true) (et_is (et_op (ev_ixT (ev_var rfl) (ex_t e12 hs) (v := vS Mi.wThere) rfl) ev_c (rv_eqS (b := Mi.wThere))) rfl) (fun _ H3 e3 => ?_) (fun h => nomatch h)
    exact s_ret (ev_yes (ev_var rfl)) fun H4 e4 => k H4 (e12.trans (e3.trans e4))
  | length p q n =>
    obtain ⟨a, c, rfl, hs, hcs⟩ := inv_there hx
    obtain ⟨o, rfl, ho, ht⟩ := ha
    refine q_when (b := false) (et_is (et_op (ev_ixT (ev_var rfl) (ex_t e12 hs) (v := vS Mi.wLength) rfl) ev_c (rv_eqS (b := Mi.wThere))) rfl) (fun h => nomatch h) (fun _ H3 e3 => ?_)
    exact s_ret (ev_strO (ev_var rfl) ho ht) fun H4 e4 => k H4 (e12.trans (e3.trans e4))
  | cell p q n t =>
    obtain ⟨a, c, rfl, hs, hcs⟩ := inv_cell hx
    obtain ⟨o, rfl, ho, ht⟩ := ha
    refine q_when (b := false) (et_is (et_op (ev_ixT (ev_var rfl) (ex_t e12 hs) (v := vS Mi.wCell) rfl) ev_c (rv_eqS (b := Mi.wThere))) rfl) (fun h => nomatch h) (fun _ H3 e3 => ?_)
    exact s_ret (ev_strO (ev_var rfl) ho ht) fun H4 e4 => k H4 (e12.trans (e3.trans e4))
/-! ### the law's writers -/
abbrev jn (cs : List Nat) : Mi.Tx := TL.joinL [44] (cs.map TL.numL)
theorem jn_nil {cs : List Nat} : jn cs = [] ↔ cs = [] := by
  cases cs with
  | nil => exact ⟨fun _ => rfl, fun _ => rfl⟩
  | cons c r =>
    obtain ⟨k, l, _, m, e2⟩ := Mi.joinL_head (S := [44]) (r := r.map TL.numL) (TL.numL_ne c)
    refine ⟨fun h => ?_, fun h => by cases h⟩
    have : TL.joinL [44] (TL.numL c :: r.map TL.numL) = [] := h
    rw [e2] at this
    cases this
theorem jn_snoc (cs : List Nat) (c : Nat) : jn (cs ++ [c]) = jn cs ++ (if jn cs = [] then [] else [44]) ++ TL.numL c := by
  by_cases h : cs = []
  · subst h
    rfl
  · rw [if_neg fun z => h (jn_nil.mp z)]
    show TL.joinL [44] ((cs ++ [c]).map TL.numL) = _
    rw [List.map_append, List.map_cons, List.map_nil, joinL_snoc (by simpa using h), List.append_assoc]
theorem jn_len {cs : List Nat} (h : Mi.cellsOk cs) (i : Nat) : (jn (cs.take i)).length ≤ 192 := by
  by_cases e : cs.take i = []
  · rw [e]
    decide
  · have h2 : Mi.cellsOk (cs.take i) := ⟨by
      have := List.length_take (i := i) (l := cs)
      have := h.1
      omega, fun c hc => h.2 c (List.mem_of_mem_take hc)⟩
    have h3 := cellsW_len h2
    unfold Mi.cellsW at h3
    rw [if_neg e] at h3
    exact h3
theorem cellsW_jn (cs : List Nat) : Mi.cellsW cs = if jn cs = [] then [45] else jn cs := by
  unfold Mi.cellsW
  by_cases e : cs = []
  · rw [if_pos e, if_pos (jn_nil.mpr e)]
  · rw [if_neg e, if_neg fun z => e (jn_nil.mp z)]
abbrev N__law_cells_word : List Str := ["_law_cells_here", "_law_found", "_law_cell"]
theorem S__law_cells_word : FnScope N__law_cells_word ["_law_cells_here"] (defScope (top 67)) := ⟨rfl, rfl, rfl, by decide +kernel, rfl, by decide +kernel, by decide +kernel⟩
theorem B__law_cells_word (kV doc pm : Value) (an : Option Addr) (cdv ct : Value) (us : List Value) (hl : us.length = (["_law_cells_here"] : List Str).length) : bindArgs (PySem.W.fnOf "_law_cells_word" "_law_cells_word" (defArgs (top 67)) (defBody (top 67)) (defScope (top 67)) .none kV doc pm an cdv ct) ⟨us, []⟩ = pure ((["_law_cells_here"] : List Str).zip us) := match us, hl with | [_], _ => rfl
theorem c_law_cells_word (D : DefOk K mg "_law_cells_word" (top 67)) (G : Gb mg) : C8.Cal P w K mg base 1 "_law_cells_word" (Spv (p_cells_text (K := K))) [] := cal_of D S__law_cells_word B__law_cells_word (fun vs H Q E h => by obtain ⟨v, ⟨a, b, rfl, _⟩, _⟩ := h; rfl) fun f cdv A outer s H vs Q E hr h => by
  refine ⟨_, (pss_cons (ps_set (i := 1) S__law_cells_word.nd rfl (by first | exact Or.inl rfl | exact Or.inr rfl) pe_str)
  (pss_cons (ps_for PassesOwn.never rfl (pi_tup (pv 0)) (pg_name (i := 2) S__law_cells_word.nd rfl (by first | exact Or.inl rfl | exact Or.inr rfl)) (pss_one (ps_set (i := 1) S__law_cells_word.nd rfl (by first | exact Or.inl rfl | exact Or.inr rfl) (pe_op op_add_str (pe_op op_add_str (pv 1) (pe_ifExp (pt_cmpR op_ne (pv 1) pe_str (nomark _)) pe_str pe_str)) (pe_callTy call_str_int (by rfl) G.f_str boot_str (pa_cons (pv 2) pa_nil))))))
  (pss_one (ps_ret (pe_ifExp (pt_cmpR op_ne (pv 1) pe_str (nomark _)) (pv 1) pe_str))))), ?_⟩
  obtain ⟨_, ⟨p, cs, rfl, hs, hc, rfl⟩, k⟩ := h
  refine q_asg ev_c fun H1 e1 => ?_
  refine q_forT (ev_var rfl) (ex_t e1 hs) (fun i σ' H' => Ex H H' ∧ ∃ y, σ' = [some (.ref p), some (vS (jn (cs.take i))), y]) (fun H2 e2 => ⟨e1.trans e2, _, rfl⟩) (fun i σ' H' _ h => ex_t h.1 hs) ?_ ?_
  · rintro i x σ' H2 hi ⟨e2, y, rfl⟩
    rw [List.getElem?_map] at hi
    cases hci : cs[i]? with
    | none => rw [hci] at hi; cases hi
    | some c =>
      rw [hci] at hi
      cases hi
      have hc1 : c ≤ 996 := hc.2 c (List.mem_of_getElem? hci)
      have l1 := jn_len hc i
      have l2 := Mi.numL_short hc1
      have step := jn_snoc (cs.take i) c
      rw [← snoc_take hci] at step
      have l3 : (if jn (cs.take i) = [] then ([] : Mi.Tx) else [44]).length ≤ 1 := by split <;> decide
      refine s_asg (v := vS (jn (cs.take (i + 1)))) ?_ fun H3 e3 => ⟨e2.trans e3, _, rfl⟩
      rw [step]
      refine ev_cat (ev_cat (ev_var rfl) (b := if jn (cs.take i) = [] then [] else [44]) (ev_if (et_op (ev_var rfl) ev_c (rv_neS (b := []))) (fun hb => ?_) fun hb => ?_) (by omega)) (ev_strI (ev_var rfl) (small_num hc1)) (by rw [List.length_append]; omega)
      · rw [if_neg (by simpa using hb)]
        exact ev_c
      · rw [if_pos (by simpa using hb)]
        exact ev_c
  · rintro σ' H2 ⟨e2, y, rfl⟩
    rw [List.length_map, List.take_length]
    refine s_ret (v := vS (Mi.cellsW cs)) (ev_if (et_op (ev_var rfl) ev_c (rv_neS (b := []))) (fun hb => ?_) fun hb => ?_) fun H3 e3 => k H3 (e2.trans e3)
    · rw [cellsW_jn, if_neg (by simpa using hb)]
      exact ev_var rfl
    · rw [cellsW_jn, if_pos (by simpa using hb)]
      exact ev_c
abbrev N__law_save_word : List Str := ["_law_save"]
theorem S__law_save_word : FnScope N__law_save_word ["_law_save"] (defScope (top 68)) := ⟨rfl, rfl, rfl, by decide +kernel, rfl, by decide +kernel, by decide +kernel⟩
theorem B__law_save_word (kV doc pm : Value) (an : Option Addr) (cdv ct : Value) (us : List Value) (hl : us.length = (["_law_save"] : List Str).length) : bindArgs (PySem.W.fnOf "_law_save_word" "_law_save_word" (defArgs (top 68)) (defBody (top 68)) (defScope (top 68)) .none kV doc pm an cdv ct) ⟨us, []⟩ = pure ((["_law_save"] : List Str).zip us) := match us, hl with | [_], _ => rfl
theorem c_law_save_word (D : DefOk K mg "_law_save_word" (top 68)) (G : Gb mg) : C8.Cal P w K mg base 1 "_law_save_word" (Spv (p_save_text (K := K))) [] := cal_of D S__law_save_word B__law_save_word (fun vs H Q E h => by obtain ⟨v, ⟨a, b, c, rfl, _⟩, _⟩ := h; rfl) fun f cdv A outer s H vs Q E hr h => by
  refine ⟨_, (pss_one (ps_ret (pe_ifExp (pt_cmpR op_isN (pv 0) pe_non (nomark _)) pe_str (pe_op op_add_str (pe_op op_add_str (pe_callTy call_str_int (by rfl) G.f_str boot_str (pa_cons (pe_ix ix_tup (pv 0) pe_int (fun _ _ => rfl)) pa_nil)) pe_str) (pe_callTy call_str_int (by rfl) G.f_str boot_str (pa_cons (pe_ix ix_tup (pv 0) pe_int (fun _ _ => rfl)) pa_nil)))))), ?_⟩
  obtain ⟨_, ⟨p, a, b, rfl, hs, ha, hb, rfl⟩, k⟩ := h
  have l1 := Mi.numL_short ha
  have l2 := Mi.numL_short hb
  refine s_ret (ev_if (b := false) (et_op (ev_var rfl) ev_c rv_isN) (fun h => nomatch h) fun _ => ev_is (ev_cat (b := TL.numL b) (ev_cat (a := TL.numL a) (b := [46]) (ev_strI (ev_ixT (ev_var rfl) hs rfl) (small_num ha)) ev_c (by rw [List.length_singleton]; omega)) (ev_strI (ev_ixT (ev_var rfl) hs rfl) (small_num hb)) (by rw [List.length_append, List.length_singleton]; omega)) ?_) k
  unfold Mi.saveW
  rw [List.append_assoc] <;> rfl
abbrev N__law_deed_text : List Str := ["_law_deed", "_law_found"]
theorem S__law_deed_text : FnScope N__law_deed_text ["_law_deed"] (defScope (top 69)) := ⟨rfl, rfl, rfl, by decide +kernel, rfl, by decide +kernel, by decide +kernel⟩
theorem B__law_deed_text (kV doc pm : Value) (an : Option Addr) (cdv ct : Value) (us : List Value) (hl : us.length = (["_law_deed"] : List Str).length) : bindArgs (PySem.W.fnOf "_law_deed_text" "_law_deed_text" (defArgs (top 69)) (defBody (top 69)) (defScope (top 69)) .none kV doc pm an cdv ct) ⟨us, []⟩ = pure ((["_law_deed"] : List Str).zip us) := match us, hl with | [_], _ => rfl
theorem c_law_deed_text (D : DefOk K mg "_law_deed_text" (top 69)) (G : Gb mg) (c__law_cells_word : C8.Cal P w K mg base 1 "_law_cells_word" (Spv (p_cells_text (K := K))) []) : C8.Cal P w K mg base 2 "_law_deed_text" (Spv (p_deed_text (K := K))) [] := cal_of D S__law_deed_text B__law_deed_text (fun vs H Q E h => by obtain ⟨v, ⟨a, o, rfl, _⟩, _⟩ := h; rfl) fun f cdv A outer s H vs Q E hr h => by
  refine ⟨_, (pss_cons (ps_set (i := 1) S__law_deed_text.nd rfl (by first | exact Or.inl rfl | exact Or.inr rfl) (pe_op op_add_str (pe_op op_add_str (pe_ix ix_tup (pv 0) pe_int (fun _ _ => rfl)) pe_str) (pe_ix ix_tup (pv 0) pe_int (fun _ _ => rfl))))
  (pss_cons (ps_if (pt_cmpR op_eq (pe_ix ix_tup (pv 0) pe_int (fun _ _ => rfl)) pe_str (nomark _)) (pss_one (ps_ret (pe_op op_add_str (pe_op op_add_str (pv 1) pe_str) (C8.pe_c c__law_cells_word hr (by decide) (by rfl) (pa_cons (pe_ix ix_tup (pv 0) pe_int (fun _ _ => rfl)) pa_nil))))) pss_nil)
  (pss_cons (ps_if (pt_cmpR op_eq (pe_ix ix_tup (pv 0) pe_int (fun _ _ => rfl)) pe_str (nomark _)) (pss_one (ps_ret (pe_op op_add_str (pe_op op_add_str (pe_op op_add_str (pe_op op_add_str (pe_op op_add_str (pe_op op_add_str (pv 1) pe_str) (pe_callTy call_str_int (by rfl) G.f_str boot_str (pa_cons (pe_ix ix_tup (pv 0) pe_int (fun _ _ => rfl)) pa_nil))) pe_str) (pe_callTy call_str_int (by rfl) G.f_str boot_str (pa_cons (pe_ix ix_tup (pv 0) pe_int (fun _ _ => rfl)) pa_nil))) pe_str) (C8.pe_c c__law_cells_word hr (by decide) (by rfl) (pa_cons (pe_ix ix_tup (pv 0) pe_int (fun _ _ => rfl)) pa_nil))))) pss_nil)
  (pss_one (ps_ret (pe_ifExp (pt_cmpR op_eq (pe_ix ix_tup (pv 0) pe_int (fun _ _ => rfl)) pe_str (nomark _)) (pe_op op_add_str (pe_op op_add_str (pv 1) pe_str) (pe_ix ix_tup (pv 0) pe_int (fun _ _ => rfl))) (pv 1))))))), ?_⟩
  obtain ⟨_, ⟨x, d, rfl, hx, hd, rfl⟩, k⟩ := h
  cases d with
  | put n cs =>
    obtain ⟨a, c, rfl, hs, hcs⟩ := inv_put hx
    obtain ⟨hn, hc⟩ := hd
    have ln := nm_len hn
    have lc := cellsW_len hc
    refine q_asg (v := vS (Mi.wPut ++ [32] ++ n)) (ev_cat (ev_cat (ev_ixT (ev_var rfl) hs (v := vS Mi.wPut) rfl) ev_c (by decide)) (ev_ixT (ev_var rfl) hs (v := vS n) rfl) (by show 4 + n.length ≤ 100000; omega)) fun H1 e1 => ?_
    refine q_when (b := true) (et_is (et_op (ev_ixT (ev_var rfl) (ex_t e1 hs) (v := vS Mi.wPut) rfl) ev_c (rv_eqS (b := Mi.wPut))) rfl) (fun _ H2 e2 => ?_) (fun h => nomatch h)
    exact s_ret (ev_is (ev_cat (b := Mi.cellsW cs) (ev_cat (b := [32]) (ev_var rfl) ev_c (by simp; omega)) (ev_cal (ea1 (ev_ixT (ev_var rfl) (ex_t (e1.trans e2) hs) (v := .ref c) rfl)) fun _ e => ⟨c, cs, rfl, ex_t ((e1.trans e2).trans e) hcs, hc, rfl⟩) (by simp; omega)) (by simp [Mi.Dd.text, Mi.Dd.words, TL.joinL])) fun H3 e3 => k H3 ((e1.trans e2).trans e3)
  | patch n p q cs =>
    obtain ⟨a, c, rfl, hs, hcs⟩ := inv_patch hx
    obtain ⟨hn, hp, hq, hc⟩ := hd
    have ln := nm_len hn
    have lc := cellsW_len hc
    have lp := Mi.numL_short hp
    have lq := Mi.numL_short hq
    refine q_asg (v := vS (Mi.wPatch ++ [32] ++ n)) (ev_cat (ev_cat (ev_ixT (ev_var rfl) hs (v := vS Mi.wPatch) rfl) ev_c (by decide)) (ev_ixT (ev_var rfl) hs (v := vS n) rfl) (by show 6 + n.length ≤ 100000; omega)) fun H1 e1 => ?_
    refine q_when (b := false) (et_is (et_op (ev_ixT (ev_var rfl) (ex_t e1 hs) (v := vS Mi.wPatch) rfl) ev_c (rv_eqS (b := Mi.wPut))) rfl) (fun h => nomatch h) (fun _ H2 e2 => ?_)
    refine q_when (b := true) (et_is (et_op (ev_ixT (ev_var rfl) (ex_t (e1.trans e2) hs) (v := vS Mi.wPatch) rfl) ev_c (rv_eqS (b := Mi.wPatch))) rfl) (fun _ H3 e3 => ?_) (fun h => nomatch h)
    have e13 := (e1.trans e2).trans e3
    exact s_ret (ev_is (ev_cat (b := Mi.cellsW cs) (ev_cat (b := [32]) (ev_cat (b := TL.numL q) (ev_cat (b := [32]) (ev_cat (b := TL.numL p) (ev_cat (b := [32]) (ev_var rfl) ev_c (by simp; omega)) (ev_strI (ev_ixT (ev_var rfl) (ex_t e13 hs) rfl) (small_num hp)) (by simp; omega)) ev_c (by simp; omega)) (ev_strI (ev_ixT (ev_var rfl) (ex_t e13 hs) rfl) (small_num hq)) (by simp; omega)) ev_c (by simp; omega)) (ev_cal (ea1 (ev_ixT (ev_var rfl) (ex_t e13 hs) (v := .ref c) rfl)) fun _ e => ⟨c, cs, rfl, ex_t (e13.trans e) hcs, hc, rfl⟩) (by simp; omega)) (by simp [Mi.Dd.text, Mi.Dd.words, TL.joinL])) fun H4 e4 => k H4 (e13.trans e4)
  | drop n =>
    obtain ⟨a, rfl, hs⟩ := inv_drop hx
    have hn : Mi.isNm n = true := hd
    have ln := nm_len hn
    refine q_asg (v := vS (Mi.wDrop ++ [32] ++ n)) (ev_cat (ev_cat (ev_ixT (ev_var rfl) hs (v := vS Mi.wDrop) rfl) ev_c (by decide)) (ev_ixT (ev_var rfl) hs (v := vS n) rfl) (by show 5 + n.length ≤ 100000; omega)) fun H1 e1 => ?_
    refine q_when (b := false) (et_is (et_op (ev_ixT (ev_var rfl) (ex_t e1 hs) (v := vS Mi.wDrop) rfl) ev_c (rv_eqS (b := Mi.wPut))) rfl) (fun h => nomatch h) (fun _ H2 e2 => ?_)
    refine q_when (b := false) (et_is (et_op (ev_ixT (ev_var rfl) (ex_t (e1.trans e2) hs) (v := vS Mi.wDrop) rfl) ev_c (rv_eqS (b := Mi.wPatch))) rfl) (fun h => nomatch h) (fun _ H3 e3 => ?_)
    have e13 := (e1.trans e2).trans e3
    exact s_ret (ev_if (b := false) (et_is (et_op (ev_ixT (ev_var rfl) (ex_t e13 hs) (v := vS Mi.wDrop) rfl) ev_c (rv_eqS (b := Mi.wRename))) rfl) (fun h => nomatch h) fun _ => ev_is (ev_var rfl) (by simp [Mi.Dd.text, Mi.Dd.words, TL.joinL])) fun H4 e4 => k H4 (e13.trans e4)
  | rename n m =>
    obtain ⟨a, rfl, hs⟩ := inv_rename hx
    obtain ⟨hn, hm, hne⟩ := hd
    have ln := nm_len hn
    have lm := nm_len hm
    refine q_asg (v := vS (Mi.wRename ++ [32] ++ n)) (ev_cat (ev_cat (ev_ixT (ev_var rfl) hs (v := vS Mi.wRename) rfl) ev_c (by decide)) (ev_ixT (ev_var rfl) hs (v := vS n) rfl) (by show 7 + n.length ≤ 100000; omega)) fun H1 e1 => ?_
    refine q_when (b := false) (et_is (et_op (ev_ixT (ev_var rfl) (ex_t e1 hs) (v := vS Mi.wRename) rfl) ev_c (rv_eqS (b := Mi.wPut))) rfl) (fun h => nomatch h) (fun _ H2 e2 => ?_)
    refine q_when (b := false) (et_is (et_op (ev_ixT (ev_var rfl) (ex_t (e1.trans e2) hs) (v := vS Mi.wRename) rfl) ev_c (rv_eqS (b := Mi.wPatch))) rfl) (fun h => nomatch h) (fun _ H3 e3 => ?_)
    have e13 := (e1.trans e2).trans e3
    exact s_ret (ev_if (b := true) (et_is (et_op (ev_ixT (ev_var rfl) (ex_t e13 hs) (v := vS Mi.wRename) rfl) ev_c (rv_eqS (b := Mi.wRename))) rfl) (fun _ => ev_is (ev_cat (b := m) (ev_cat (b := [32]) (ev_var rfl) ev_c (by simp; omega)) (ev_ixT (ev_var rfl) (ex_t e13 hs) (v := vS m) rfl) (by simp; omega)) (by simp [Mi.Dd.text, Mi.Dd.words, TL.joinL])) fun h => nomatch h) fun H4 e4 => k H4 (e13.trans e4)
/-- two new lists, one behind the other -/
theorem el_cat {σ : L2.St} {H : Hp} {ta tb : TE} {xs ys : List V} (h : EvL ta σ H xs) (h2 : EvL tb σ H ys) (hz : xs.length + ys.length ≤ 100000) : EvL (tOp rCat ta tb) σ H (xs ++ ys) := fun H1 e Q q =>
  h H1 e _ fun p H2 hp e2 h2' => h2 H2 (e.trans e2) _ fun r H3 hr e3 h3 => ⟨p, r, xs, ys, rfl, rfl, e3 p _ h2', h3, sz_of hz, fun m hm => q m _ (fresh_back (e2.trans e3) hm) ((e2.trans e3).trans (Ex.new hm)) upd_same⟩
abbrev N__law_question_text : List Str := ["_law_question", "_law_at"]
theorem S__law_question_text : FnScope N__law_question_text ["_law_question"] (defScope (top 70)) := ⟨rfl, rfl, rfl, by decide +kernel, rfl, by decide +kernel, by decide +kernel⟩
theorem B__law_question_text (kV doc pm : Value) (an : Option Addr) (cdv ct : Value) (us : List Value) (hl : us.length = (["_law_question"] : List Str).length) : bindArgs (PySem.W.fnOf "_law_question_text" "_law_question_text" (defArgs (top 70)) (defBody (top 70)) (defScope (top 70)) .none kV doc pm an cdv ct) ⟨us, []⟩ = pure ((["_law_question"] : List Str).zip us) := match us, hl with | [_], _ => rfl
theorem c_law_question_text (D : DefOk K mg "_law_question_text" (top 70)) (G : Gb mg) (c__law_save_word : C8.Cal P w K mg base 1 "_law_save_word" (Spv (p_save_text (K := K))) []) : C8.Cal P w K mg base 2 "_law_question_text" (Spv (p_question_text (K := K))) [] := cal_of D S__law_question_text B__law_question_text (fun vs H Q E h => by obtain ⟨v, ⟨a, o, rfl, _⟩, _⟩ := h; rfl) fun f cdv A outer s H vs Q E hr h => by
  refine ⟨_, (pss_one (ps_ret (pe_join pe_str (pe_op op_cat (pe_lst (pa_cons (pe_ix ix_tup (pv 0) pe_int (fun _ _ => rfl)) (pa_cons (C8.pe_c c__law_save_word hr (by decide) (by rfl) (pa_cons (pe_ix ix_tup (pv 0) pe_int (fun _ _ => rfl)) pa_nil)) (pa_cons (pe_ix ix_tup (pv 0) pe_int (fun _ _ => rfl)) pa_nil)))) (pe_lc (own := [("_law_at", 1)]) (g := gName 1) (tt := tYes) rfl S__law_question_text.nd (pi_tup (pe_slice sl_tupA (pv 0) (po_some pe_int) po_none)) (blkOk_by (N := N__law_question_text) (sc := defScope (top 70)) (by decide +kernel)) (fun _ _ _ _ _ => pg_name (i := 1) S__law_question_text.nd rfl (Or.inl rfl)) (fun _ _ _ _ _ => pts_nil) (fun _ _ _ _ _ => (pe_callTy call_str_int (by rfl) G.f_str boot_str (pa_cons (pv 1) pa_nil)))))))), ?_⟩
  obtain ⟨_, ⟨x, d, rfl, hx, hd, rfl⟩, k⟩ := h
  have lw : ∀ {a b : Nat}, Mi.saveOk a b → (Mi.saveW a b).length ≤ 7 := fun {a b} h => by
    have h1 := Mi.numL_short h.1.2
    have h2 := Mi.numL_short h.2.2
    unfold Mi.saveW
    rw [List.length_append, List.length_cons]
    omega
  cases d with
  | there p q n =>
    obtain ⟨a, c, rfl, hs, hcs⟩ := inv_there hx
    have l1 := lw hd.1
    have l2 := nm_len hd.2
    refine s_ret (ev_is (ev_join (c := 32) (ws := [Mi.wThere, Mi.saveW p q, n] ++ []) ev_c (el_eq (el_cat (el_lst (ea3 (ev_ixT (ev_var rfl) hs (v := vS Mi.wThere) rfl) (ev_cal (ea1 (ev_ixT (ev_var rfl) hs (v := .ref c) rfl)) fun _ e => ⟨c, p, q, rfl, ex_t e hcs, hd.1.1.2, hd.1.2.2, rfl⟩) (ev_ixT (ev_var rfl) hs (v := vS n) rfl)) (show 3 ≤ 100000 from by decide)) (el_tupN (l := []) (val := vI) (fun _ => true) (fun t => vS (TL.numL t)) (eu_sl (ev_var rfl) hs (fun h => absurd (show (3 : Nat) = 0 from h.1) (by decide))) (by decide) (fun _ => rfl) (fun _ _ _ _ => et_yes) fun t ht _ H2 e2 => absurd ht (by simp)) (show 3 + 0 ≤ 100000 from by decide)) rfl) ?_) (by rw [List.append_nil] <;> rfl)) k
    simp only [List.append_nil, List.map_cons, List.map_nil, List.sum_cons, List.sum_nil, List.length_cons, List.length_nil]
    omega
  | length p q n =>
    obtain ⟨a, c, rfl, hs, hcs⟩ := inv_there hx
    have l1 := lw hd.1
    have l2 := nm_len hd.2
    refine s_ret (ev_is (ev_join (c := 32) (ws := [Mi.wLength, Mi.saveW p q, n] ++ []) ev_c (el_eq (el_cat (el_lst (ea3 (ev_ixT (ev_var rfl) hs (v := vS Mi.wLength) rfl) (ev_cal (ea1 (ev_ixT (ev_var rfl) hs (v := .ref c) rfl)) fun _ e => ⟨c, p, q, rfl, ex_t e hcs, hd.1.1.2, hd.1.2.2, rfl⟩) (ev_ixT (ev_var rfl) hs (v := vS n) rfl)) (show 3 ≤ 100000 from by decide)) (el_tupN (l := []) (val := vI) (fun _ => true) (fun t => vS (TL.numL t)) (eu_sl (ev_var rfl) hs (fun h => absurd (show (3 : Nat) = 0 from h.1) (by decide))) (by decide) (fun _ => rfl) (fun _ _ _ _ => et_yes) fun t ht _ H2 e2 => absurd ht (by simp)) (show 3 + 0 ≤ 100000 from by decide)) rfl) ?_) (by rw [List.append_nil] <;> rfl)) k
    simp only [List.append_nil, List.map_cons, List.map_nil, List.sum_cons, List.sum_nil, List.length_cons, List.length_nil]
    omega
  | cell p q n t =>
    obtain ⟨a, c, rfl, hs, hcs⟩ := inv_cell hx
    have l1 := lw hd.1
    have l2 := nm_len hd.2.1
    have l3 := Mi.numL_short (Nat.le_succ_of_le hd.2.2)
    refine s_ret (ev_join (c := 32) (ws := [Mi.wCell, Mi.saveW p q, n] ++ [TL.numL t]) ev_c (el_eq (el_cat (el_lst (ea3 (ev_ixT (ev_var rfl) hs (v := vS Mi.wCell) rfl) (ev_cal (ea1 (ev_ixT (ev_var rfl) hs (v := .ref c) rfl)) fun _ e => ⟨c, p, q, rfl, ex_t e hcs, hd.1.1.2, hd.1.2.2, rfl⟩) (ev_ixT (ev_var rfl) hs (v := vS n) rfl)) (show 3 ≤ 100000 from by decide)) (el_tupN (l := [t]) (val := vI) (fun _ => true) (fun t => vS (TL.numL t)) (eu_sl (ev_var rfl) hs (fun h => absurd (show (3 : Nat) = 0 from h.1) (by decide))) (show 1 ≤ 40000 from by decide) (fun _ => rfl) (fun _ _ _ _ => et_yes) fun u hu _ H2 e2 => ev_strI (ev_var rfl) (small_num (by rw [List.mem_singleton.mp hu]; exact Nat.le_succ_of_le hd.2.2))) (show 3 + 1 ≤ 100000 from by decide)) rfl) ?_) k
    simp only [List.cons_append, List.nil_append, List.map_cons, List.map_nil, List.sum_cons, List.sum_nil, List.length_cons, List.length_nil]
    omega
abbrev N__law_answer_text : List Str := ["_law_question", "_law_answer"]
theorem S__law_answer_text : FnScope N__law_answer_text ["_law_question", "_law_answer"] (defScope (top 71)) := ⟨rfl, rfl, rfl, by decide +kernel, rfl, by decide +kernel, by decide +kernel⟩
theorem B__law_answer_text (kV doc pm : Value) (an : Option Addr) (cdv ct : Value) (us : List Value) (hl : us.length = (["_law_question", "_law_answer"] : List Str).length) : bindArgs (PySem.W.fnOf "_law_answer_text" "_law_answer_text" (defArgs (top 71)) (defBody (top 71)) (defScope (top 71)) .none kV doc pm an cdv ct) ⟨us, []⟩ = pure ((["_law_question", "_law_answer"] : List Str).zip us) := match us, hl with | [_, _], _ => rfl
def p_law_answer_text : List V → Hp → V → Prop := fun vs H v => ∃ (x y : V) (q : Mi.Qn) (t : Mi.Tx), vs = [x, y] ∧ Dt K H x (.tuple q.py) ∧ AnsOk q y t ∧ v = vS t
theorem c_law_answer_text (D : DefOk K mg "_law_answer_text" (top 71)) (G : Gb mg) : C8.Cal P w K mg base 1 "_law_answer_text" (Spv (p_law_answer_text (K := K))) [] := cal_of D S__law_answer_text B__law_answer_text (fun vs H Q E h => by obtain ⟨v, ⟨a, b, c, d, rfl, _⟩, _⟩ := h; rfl) fun f cdv A outer s H vs Q E hr h => by
  refine ⟨_, (pss_cons (ps_if (pt_cmpR op_eq (pe_ix ix_tup (pv 0) pe_int (fun _ _ => rfl)) pe_str (nomark _)) (pss_one (ps_ret (pe_ifExp (pt_val (pv 1)) pe_str pe_str))) pss_nil)
  (pss_one (ps_ret (pe_ifExp (pt_cmpR op_isN (pv 1) pe_non (nomark _)) pe_str (pe_callTy call_str_int (by rfl) G.f_str boot_str (pa_cons (pv 1) pa_nil)))))), ?_⟩
  obtain ⟨_, ⟨x, y, q, t, rfl, hx, ha, rfl⟩, k⟩ := h
  cases q with
  | there p q n =>
    obtain ⟨a, c, rfl, hs, hcs⟩ := inv_there hx
    obtain ⟨b, rfl, rfl⟩ := ha
    refine q_when (b := true) (et_is (et_op (ev_ixT (ev_var rfl) hs (v := vS Mi.wThere) rfl) ev_c (rv_eqS (b := Mi.wThere))) rfl) (fun _ H3 e3 => ?_) (fun h => nomatch h)
    exact s_ret (ev_yes (ev_var rfl)) fun H4 e4 => k H4 (e3.trans e4)
  | length p q n =>
    obtain ⟨a, c, rfl, hs, hcs⟩ := inv_there hx
    obtain ⟨o, rfl, ho, ht⟩ := ha
    refine q_when (b := false) (et_is (et_op (ev_ixT (ev_var rfl) hs (v := vS Mi.wLength) rfl) ev_c (rv_eqS (b := Mi.wThere))) rfl) (fun h => nomatch h) (fun _ H3 e3 => ?_)
    exact s_ret (ev_strO' (ev_var rfl) ho ht) fun H4 e4 => k H4 (e3.trans e4)
  | cell p q n t =>
    obtain ⟨a, c, rfl, hs, hcs⟩ := inv_cell hx
    obtain ⟨o, rfl, ho, ht⟩ := ha
    refine q_when (b := false) (et_is (et_op (ev_ixT (ev_var rfl) hs (v := vS Mi.wCell) rfl) ev_c (rv_eqS (b := Mi.wThere))) rfl) (fun h => nomatch h) (fun _ H3 e3 => ?_)
    exact s_ret (ev_strO' (ev_var rfl) ho ht) fun H4 e4 => k H4 (e3.trans e4)
end
end K9
set_option Elab.async false
set_option linter.all false
set_option maxRecDepth 100000
set_option maxHeartbeats 4000000
/-! An own error over an own class over ValueError: its __init__ calls super().__init__(text) and stores self.at. -/
namespace PySem
namespace PeX
open PySem.W PySem.Calls PyProof.Rows PySem.HandSPX
abbrev iSt : Stmt := L2.inClass (K9.top 5) 0
/-- what the written part says of ParseError, at C, and of its __init__, at fI -/
structure PeTxt (P : Program) (K : Frag) (mg : Str → Option Value) (C fI : Addr) : Prop where
  gC : mg "ParseError" = some (.ref C)
  cls : ∃ nm q N bs bm sn sub ab col dd k0 k1 k2 k3 k5, K.lookup C = some (excClassObj nm q C N bs bm true sn sub ab col dd k0 k1 k2 k3 k5 "ValueError.__new__") ∧ refsVE bm = true ∧ alongIn K "__init__" bm = some (some (.builtin "ValueError.__init__"))
  sa : findIn K (.ref C) "__setattr__" = some (some (.builtin "object.__setattr__"))
  ga : findIn K (.ref C) "__getattribute__" = some (some (.builtin "BaseException.__getattribute__"))
  gg : findIn K (.ref C) "__getattr__" = some none
  noN : findIn K (.ref C) "at" = some none
  iC : findIn K (.ref C) "__init__" = some (some (.ref fI))
  tC : typeIn K (.ref fI) = some (.type "function")
  kC : keepIn K (.ref C) = true
  exC : subIn K (.ref C) (.type "BaseException") = some true
  veC : subIn K (.ref C) (.type "ValueError") = some true
  meC : mroIn K C (.ref C) = some true
  tyC : typeIn K (.ref C) = some (.type "type")
  hdC : hasDictIn K C = true
  te : exmOne K (.ref C) (.ref C) = some true
  op : nsIn K cStatics "thirdparty.any" = some none
  gS : mg "super" = none
  pTop : (P.main.scope.names.lookup ("super" : Str)).isSome = false
  fn : ∃ (oc : Value) (od : Option Addr) (doc pm : Value) (an : Option Addr) (cda cc : Addr) (ct : Value) (osl : Array (Option Value)) (ccl : Value) (cdd : Option Addr) (vs : Array Value) (ccs : Array (Option Value)) (file : Str) (tf : Tok) (cl : Value) (cld : Option Addr) (csl : Array (Option Value)),
    K.lookup fI = some ⟨oc, od, .func (ksFn "__init__" "ParseError.__init__" (L2.defArgs iSt) (L2.defBody iSt) (L2.defScope iSt) .none .none doc pm an (.ref cda) ct cc), osl⟩ ∧ codeIn K (.ref cda) "ParseError.__init__" = true ∧
    K.lookup cda = some ⟨ccl, cdd, .fields vs, ccs⟩ ∧ vs[2]? = some (.str file tf) ∧ ((P.main.file : Str) == file) = true ∧ K.lookup cc = some ⟨cl, cld, .cell (some (.ref C)), csl⟩
theorem rest_of (C : Addr) (bm : List Value) : ((Value.ref C :: bm).dropWhile fun v => v != .ref C).drop 1 = bm := by
  rw [List.dropWhile_cons, if_neg (by simp)] <;> rfl
/-- what __init__ leaves of a fresh exception at x -/
structure InitEnd (h h' : Heap) (x C dx t1 : Addr) (v : Value) : Prop where
  keep : ∀ b o, b ≠ x → h.get? b = some o → h'.get? b = some o
  obj : h'.get? x = some { cls := .ref C, dict := some dx, data := .fields #[.ref t1, .none, .none, .none, .bool false, .none] }
  dbig : h.objs.size ≤ dx
  dne : dx ≠ x
  ns : h'.Ns1 dx (fun y => if y = "at" then some v else none)
/-- a made ParseError -/
structure OwnMade (h h' : Heap) (e C d : Addr) (v : Value) : Prop where
  keep : ∀ b o, h.get? b = some o → h'.get? b = some o
  new : h.objs.size ≤ e
  obj : ∃ oe vs, h'.get? e = some oe ∧ oe.cls = .ref C ∧ oe.dict = some d ∧ oe.data = .fields vs ∧ vs[1]? = some .none
  dbig : h.objs.size ≤ d
  dne : d ≠ e
  ns : h'.Ns1 d (fun y => if y = "at" then some v else none)
section
variable {prog : Program} {w : World} {A : Around} {E : Value → Shared → Prop} {R : Result → Shared → Prop} {s : Shared} {K : Frag} {mg : Str → Option Value} {C fI : Addr}
/-- ValueError's __init__ bound to the exception, called with values -/
theorem call_mw {nm q : Str} {N : Addr} {bs bm : List Value} {hdct : Bool} {sn : List Str} {sub : List Value} {ab : Bool} {col : Option Bool} {dd : Option Addr} {k0 k1 k2 k3 k5 : Option Value} {h : Heap} {g : Array GenState} {d : Drawn} {t : Nat} {os : OsState} {u e t0 : Addr} {vs : List Value} {Q : Value → Shared → Prop}
    (hC : h.get? C = some (excClassObj nm q C N bs bm hdct sn sub ab col dd k0 k1 k2 k3 k5 "ValueError.__new__")) (he : h.get? e = some (excO C t0)) (hu : h.get? u = some (kxs_mw "ValueError.__init__" e)) (hv : vs.length ≤ sizeLine)
    (hq : ∀ h', (∀ b o, b ≠ e → h.get? b = some o → h'.get? b = some o) → h'.get? e = some (excO C h.objs.size) → Q .none ⟨h', g, d, t, os⟩) :
    wpAny (model prog w) A (call (.ref u) vs) Q E ⟨h, g, d, t, os⟩ := by
  refine wpAny_call (codeAny_of_tree ?_)
  show wpAny _ A.in1 (callAny (.ref u) _) _ _ _
  simp only [callAny]
  refine wpAny_bind (wpAny_load hu ?_)
  simp only [kxs_mw, show (Value.type "method-wrapper" == Value.type "method" || Value.type "method-wrapper" == Value.type "builtin_function_or_method" || Value.type "method-wrapper" == Value.type "method-wrapper") = true by decide, if_true]
  refine KFB.if_so (by decide) ?_
  refine wpAny_bind (check_bound_init (cls := "ValueError") F.excBase_ValueError.toExcCallFacts hC he rfl ?_)
  refine wpAny_bind (wpAny_pure (wpAny_pure ?_))
  refine ⟨plainId_quiet F.excBase_ValueError.init.plain _, codeAny_builtin F.excBase_ValueError.initEntry ?_⟩
  exact exc_init_tree (cls := .ref C) (t0 := t0) (dv := none) (c2 := .none) (c3 := .none) (b4 := .bool false) he hv fun h' k e' _ => hq h' k e'
theorem pe_init (T : PeTxt prog K mg C fI) {x t0 : Addr} {v : Value} (X : K.In s.heap) (hG : s.heap.Ns mainGlobals mg) (hB : ∃ mb, s.heap.Ns builtinsNs mb ∧ ∀ x : Str, x ≠ "__name__" → mb x = bootBuiltins x) (hlim : s.heap.NoLimit) (hx : s.heap.get? x = some (excO C t0)) (hnx : K.lookup x = none) (hroom : A.depth < recursionLimit)
    (hq : ∀ h' tk dx t1, InitEnd s.heap h' x C dx t1 v → R (.ok (.ret .none)) { s with heap := h', toks := tk }) :
    codeAny (model prog w) A (.call (.ref fI) ⟨[.ref x, v], []⟩) R s := by
  obtain ⟨oc, od, doc, pm, an, cda, cc, ct, osl, ccl, cdd, cvs, ccs, file, tf, cl, cld, csl, ho, hcd, hcda, hvs, hfile, hcc⟩ := T.fn
  obtain ⟨nm, q, N, bs, bm, sn, sub, ab, col, dd, k0, k1, k2, k3, k5, hC, hbm, hal⟩ := T.cls
  have hcl : clsIn K C = some { name := nm, bases := bs, mro := .ref C :: bm, ns := N, qualname := q, hasDict := true, slotNames := sn, subclasses := sub, abstract := ab, collection := col, hasDel := false } := by unfold clsIn; rw [hC] <;> rfl
  obtain ⟨mb, hB1, hB2⟩ := hB
  refine ks_codeAny_call_defAt (fd := ksFn "__init__" "ParseError.__init__" (L2.defArgs iSt) (L2.defBody iSt) (L2.defScope iSt) .none .none doc pm an (.ref cda) ct cc) (body := L2.defBody iSt) (binds := [("self", .ref x), ("at", v)]) hroom (X _ _ ho) rfl hlim (codeRec_of X hcd) rfl (BindsTo.of_eq (by first | rfl | with_unfolding_all rfl)) (show ∀ y ∈ (L2.defScope iSt).names, y.2 ≠ .cell from by decide +kernel) (by first | decide +kernel | (intro y hy; rcases List.mem_cons.mp hy with rfl | hy; rfl; rcases List.mem_cons.mp hy with rfl | hy; rfl; cases hy)) fun h₁ hns k => ?_
  obtain ⟨hp, g, dr, tk, os⟩ := s
  have hxL : hp.objs.size ≠ x := Nat.ne_of_gt (Heap.lt_size hx)
  have X₁ : K.In h₁ := X.keeps k
  have hx₁ := k _ _ hx
  have hlt : hp.objs.size < h₁.objs.size := hns.lt
  -- super().__init__(text)
  refine ks_wpAt_execs_cons (ks_wpAt_Expr_any (ks_wpAt_MethodCall (pl := _) ?_ (by rfl)) (by rfl) (by rfl))
  refine ks_wpAt_super_base (f := fI) (cc := cda) (by rfl) (by rfl) rfl rfl (X₁ _ _ ho) rfl (by rfl) rfl (X₁ _ _ hcda) rfl hvs hfile T.pTop ?_
  refine ks_loadName_global rfl (by rfl) (Calls.loadGlobal_builtin (hG.keeps k) T.gS (hB1.keeps k) ((hB2 _ (by decide)).trans (by decide +kernel)) ⟨rfl, ?_⟩)
  refine wpAny_loadName_free rfl (by rfl) rfl ⟨_, X₁ _ _ hcc, rfl⟩ ?_
  refine wpAny_loadName_local rfl (by rfl) hns (v := .ref x) (by first | rfl | with_unfolding_all rfl | kernel_rfl) ?_
  refine ks_wpAny_isType_cls (X₁ _ _ hC) rfl ⟨rfl, ?_⟩
  refine ks_wpAny_call_super (C := C) (X₁ _ _ hC) rfl hx₁ rfl (fun c e => by cases e) (looks_mroIn X₁ T.meC) fun h₂ hso k₂ => ?_
  have X₂ : K.In h₂ := X₁.keeps k₂
  have hx₂ := k₂ _ _ hx₁
  refine kxs_getMethod kxs_ValueError (l₀ := .ref C :: bm) hso (looks_opaque X₂ T.op) ?_ (rest_of C bm) X₂ hal ?_ (fun z => ?_) (by decide) ?_
  · exact fun A Q E s kk q => wpAny_bind ((looks_clsIn X₂ hcl) A _ E s kk (wpAny_pure q))
  · exact (InstAt.type (ox := excO C t0) (od := none) ⟨hx₂, rfl, rfl, trivial⟩).andThen (looks_subIn X₂ T.veC)
  · rw [z, hC] at hnx
    cases hnx
  have k₃ : ∀ b o, h₂.get? b = some o → (h₂.push (kxs_mw "ValueError.__init__" x)).get? b = some o := fun b o e => Heap.get?_push_of_some _ e
  have X₃ := X₂.keeps k₃
  have hx₃ := k₃ _ _ hx₂
  have hu₃ : (h₂.push (kxs_mw "ValueError.__init__" x)).get? h₂.objs.size = some (kxs_mw "ValueError.__init__" x) := Heap.get?_push_size _ rfl
  refine kxs_callWith (i := "ValueError.__init__") (x := x) (by rfl) (evalArgs_plain ?_)
  show wpAny _ _ (spliced [(false, eval (.Constant (.str "a text that can be read is expected") 0 ⟨13, 25, 13, 62⟩) _)]) _ _ _
  refine spliced_cons (Constant_str (spliced_nil ⟨hu₃, ?_⟩))
  refine call_mw (X₃ _ _ hC) hx₃ hu₃ (by show 1 ≤ sizeLine; decide) fun h₄ k₄ hx₄ => ?_
  -- self.at = at
  have up : ∀ b o, b ≠ x → h₁.get? b = some o → h₄.get? b = some o := fun b o hb e => k₄ b o hb (k₃ b o (k₂ b o e))
  have X₄ : K.In h₄ := fun a o e => up a o (fun z => by rw [z, hnx] at e; cases e) (X₁ a o e)
  have hns₄ : h₄.Ns hp.objs.size (fun y => [(("self" : Str), Value.ref x), ("at", v)].reverse.lookup y) := hns.at fun o e => up _ o hxL e
  have sz : hp.objs.size < h₄.objs.size := hns₄.lt
  refine wpAt_of_wpAny (wpAny_execs_cons (plainObj_wpAny_Assign_Attribute ?_))
  refine wpAny_Name (wpAny_loadName_local rfl (by rfl) hns₄ (v := v) (by first | rfl | with_unfolding_all rfl | kernel_rfl) ?_)
  refine wpAny_Name (wpAny_loadName_local rfl (by rfl) hns₄ (v := .ref x) (by first | rfl | with_unfolding_all rfl | kernel_rfl) ?_)
  refine set_plain X₄ (ox := excO C _) (od := none) ⟨hx₄, rfl, rfl, trivial⟩ T.sa ?_
  refine exc_osa X₄ hx₄ hcl (show refsVE (.ref C :: bm) = true from hbm) rfl T.noN (fun h₅ tk₅ dx k₅ dn dne hx₅ hn₅ => ?_)
  show wpAny _ _ (execs _ _) _ _ _
  exact wpAny_execs_nil (hq h₅ tk₅ dx _ ⟨fun b o hb e => k₅ b o hb (up b o hb (k b o e)), hx₅, Nat.le_of_lt (Nat.lt_of_lt_of_le sz dn), dne, hn₅⟩)
theorem pe_made (T : PeTxt prog K mg C fI) {v : Value} (X : K.In s.heap) (hG : s.heap.Ns mainGlobals mg) (hB : ∃ mb, s.heap.Ns builtinsNs mb ∧ ∀ x : Str, x ≠ "__name__" → mb x = bootBuiltins x) (hlim : s.heap.NoLimit) (hroom : A.depth + 1 < recursionLimit)
    (hq : ∀ h' tk e d, OwnMade s.heap h' e C d v → R (.ok (.ret (.ref e))) { s with heap := h', toks := tk }) :
    codeAny (model prog w) A (.call (.ref C) ⟨[v], []⟩) R s := by
  obtain ⟨nm, q, N, bs, bm, sn, sub, ab, col, dd, k0, k1, k2, k3, k5, hC, hbm, hal⟩ := T.cls
  obtain ⟨hp, g, dr, tk, os⟩ := s
  have k : ∀ b o, hp.get? b = some o → ((hp.push (kdv_tup [v])).push (excO C hp.objs.size)).get? b = some o := fun b o e => Heap.get?_push_of_some _ (Heap.get?_push_of_some _ e)
  have hget : ((hp.push (kdv_tup [v])).push (excO C hp.objs.size)).get? (hp.objs.size + 1) = some (excO C hp.objs.size) := by heap_get
  have hnx : K.lookup (hp.objs.size + 1) = none := by
    cases e : K.lookup (hp.objs.size + 1) with
    | none => rfl
    | some o =>
      have z : hp.get? (hp.objs.size + 1) = some o := X _ _ e
      exact absurd (Nat.lt_of_succ_lt (Heap.lt_size z)) (Nat.lt_irrefl _)
  obtain ⟨mb, hB1, hB2⟩ := hB
  refine call_own F.excBase_ValueError (fun X => refsVE_contains X bm hbm) (X _ _ hC) (looks_findIn X T.iC) (fun self => bind_fn X self T.tC) (by show 1 ≤ sizeLine; decide) ?_
  refine pe_init (s := ⟨(hp.push (kdv_tup [v])).push (excO C hp.objs.size), g, dr, tk, os⟩) T (X.keeps k) (hG.keeps k) ⟨mb, hB1.keeps k, hB2⟩ (hlim.keeps k) hget hnx ?_ fun h' tk' dx t1 ⟨k', hx, dn, dne, hns⟩ => ?_
  · show A.depth + 1 < recursionLimit
    exact hroom
  · have old : ∀ b o, hp.get? b = some o → h'.get? b = some o := fun b o e => k' b o (Nat.ne_of_lt (Nat.lt_succ_of_lt (Heap.lt_size e))) (k b o e)
    have z : hp.objs.size + 1 + 1 ≤ dx := by
      first
        | (simpa only [Heap.size_push] using dn)
        | exact dn
        | (have q := dn; rw [Heap.size_push, Heap.size_push] at q; exact q)
    exact ⟨rfl, hq h' tk' (hp.objs.size + 1) dx ⟨old, Nat.le_succ _, ⟨_, _, hx, rfl, rfl, rfl, rfl⟩, Nat.le_trans (Nat.le_trans (Nat.le_succ _) (Nat.le_succ _)) z, dne, hns⟩⟩
end
end PeX
end PySem
namespace K9
open PySem PySem.Spec PyProof.Rows L2
abbrev atF (v : V) : List (Str × V) := [(("at" : Str), v)]
theorem relO_at {v : V} {v' : Value} (r : RelV v v') (f : Str) : RelO (List.lookup f (atF v)) (if f = "at" then some v' else none) := by
  by_cases hw : f = "at"
  · subst hw
    rw [if_pos rfl]
    have q : List.lookup ("at" : Str) (atF v) = some v := by simp [List.lookup]
    rw [q]
    exact r
  · rw [if_neg hw]
    have qw : (f == ("at" : Str)) = false := by simpa using hw
    have q2 : List.lookup f (atF v) = none := by simp [List.lookup, qw]
    rw [q2]
    trivial
section
variable {X : Cx} {C fI : Addr}
/-- ParseError(e) -/
def tMkPe (C : Addr) (ta : TA) : L2.St → Hp → XK → Prop := fun σ H Q => ta σ H fun vs H1 => ∃ v, vs = [v] ∧ ∀ d, H1 d = none → Q (.ref C) (some d) (upd H1 d (.xd (atF v)))
theorem pmk_pe {a : Expr} {ta : TA} {p pos : Pos} {k : Nat} (T : PySem.PeX.PeTxt X.prog X.K X.mg C fI) (hr : Room k X.A) (ha : PA X [a] ta) (hg : Gl X "ParseError" := by rfl)
    (he : starEach (a :: []) X.env = (false, eval a X.env) :: starEach [] X.env := by rfl) (hpl : (backTo pos (starEach [] X.env)).any (·.1) = false := by rfl) :
    PMk X (.Call (.Name "ParseError" p) [a] [] pos) (tMkPe C ta) := by
  intro pins s σ H Q I h
  refine wpAny_Call_Name_kw (ld_glob I hg T.gC ?_)
  refine PySem.W.callWith_K (h₀ := X.base) I.ok.mod.kin T.kC (thn (ha.run pos pins s σ H _ I h) fun us s1 hh => ?_) he hpl
  obtain ⟨vs, H1, I1, r1, v, ev, q1⟩ := hh
  subst ev
  refine ⟨I1.kIn, ?_⟩
  cases r1 with
  | cons rv rn =>
    rename_i v' us'
    cases rn
    show wpAny _ _ (call (.ref C) [v']) _ _ _
    have hlim := I1.nolimit
    have hG := I1.mod.glob.keeps I1.bk
    obtain ⟨mb, hb1, hb2⟩ := I1.mod.blt
    have hB := hb1.keeps I1.bk
    obtain ⟨hp, g, dr, tk, os⟩ := s1
    refine wpAny_call (PySem.PeX.pe_made T I1.kIn hG ⟨mb, hB, hb2⟩ hlim (by have := hr.dp; omega) fun h' tk' e d M => ?_)
    show MkP X pins σ Q (.ref e) ⟨h', g, dr, tk', os⟩
    obtain ⟨oe, fv, hoe, hc, hd, hdat, h1⟩ := M.obj
    have hns := M.ns
    obtain ⟨G', g1, g2⟩ := restrict h' fun b => decide (b ≠ e)
    have gk : ∀ b, b ≠ e → G'.get? b = h'.get? b := fun b hb => g1 b (decide_eq_true hb)
    have ge : G'.get? e = none := g2 e (by simp)
    have old : ∀ b o, hp.get? b = some o → G'.get? b = some o := fun b o q => (gk b (Nat.ne_of_lt (Nat.lt_of_lt_of_le (Heap.lt_size q) M.new))).trans (M.keep b o q)
    have ob : ObjOk X.prog X.w (upd H1 d (.xd (atF v))) G' d (.xd (atF v)) :=
      ⟨_, hns.at (fun o q => (gk d M.dne).trans q), fun f => relO_at rv f⟩
    have J : Inv X pins σ (upd H1 d (.xd (atF v))) ⟨G', g, dr, tk', os⟩ := I1.laid (t' := tk') old M.dbig ob
    refine ⟨e, oe, fv, ⟨G', g, dr, tk', os⟩, _, .ref C, some d, rfl, J, fun b o q => ?_, ge, hoe, ⟨hc, hd⟩, hdat, h1, ?_, rfl, I1.bare, raises_own T.exC T.tyC, q1 d (I1.hok.fresh M.dbig)⟩
    · by_cases hb : b = e
      · have q' : G'.get? b = some o := q
        rw [hb, ge] at q'; cases q'
      · exact (gk b hb).symm.trans q
    · rw [upd_ne (Ne.symm M.dne)]
      exact I1.hok.fresh M.new
/-- raise ParseError(e) -/
def tRaisePe (C : Addr) (W : WX) (ta : TA) : TS := fun _ σ H => tMkPe C ta σ H fun cls d H' => W cls d σ H'
theorem ps_raisePe {a : Expr} {ta : TA} {W : WX} {p pos pos2 : Pos} {k : Nat} (hc : X.calm = true) (T : PySem.PeX.PeTxt X.prog X.K X.mg C fI) (hr : Room k X.A) (tk : Takes X W) (ha : PA X [a] ta) (hg : Gl X "ParseError" := by rfl)
    (he : starEach (a :: []) X.env = (false, eval a X.env) :: starEach [] X.env := by rfl) (hpl : (backTo pos (starEach [] X.env)).any (·.1) = false := by rfl) :
    PS X (.Raise (some (.Call (.Name "ParseError" p) [a] [] pos)) none pos2) (tRaisePe C W ta) := ps_raise hc tk (pmk_pe T hr ha hg he hpl)
/-- error.at, error the exception that the suite holds (at a; its class cls, its dict d) -/
def tAtPe (C : Addr) (a : Addr) (cls : Value) (d : Option Addr) (te : TE) : TE := fun σ H Q => te σ H fun x H1 => x = .ref a ∧ cls = .ref C ∧ ∃ (dd : Addr) (v : V), d = some dd ∧ H1 dd = some (.xd (atF v)) ∧ Q v H1
theorem pe_atPe {a : Addr} {oe : Obj} {cls : Value} {d : Option Addr} {pn : List (Addr × Obj)} {e : Expr} {te : TE} {pos : Pos} (T : PySem.PeX.PeTxt X.prog X.K X.mg C fI) (hz : Zc cls d oe) (hf : ∃ vs, oe.data = .fields vs) (he : PE (X.suite a ((a, oe) :: pn)) e te)
    (hb : attributeBase e "at" X.env (eval e X.env) = eval e X.env := by rfl) :
    PE (X.suite a ((a, oe) :: pn)) (.Attribute e "at" pos) (tAtPe C a cls d te) := by
  refine ⟨fun pins s σ H Q I h => ?_⟩
  refine attr_of hb (thn (he.run pins s σ H _ I h) fun u s1 hh => ?_)
  obtain ⟨x, H1, I1, rx, ex, ec, dd, v, ed, ea, q⟩ := hh
  subst ex
  obtain rfl : u = Value.ref a := rx
  subst ec
  subst ed
  obtain ⟨ha, _⟩ := I1.pin (a, oe) (List.mem_append_left _ List.mem_cons_self)
  obtain ⟨vs, hd⟩ := hf
  have hx : ObjOk X.prog X.w H1 s1.heap dd (.xd (atF v)) := I1.hok dd _ ea
  obtain ⟨mA, hns, hr⟩ := hx
  obtain ⟨od, ho, hl⟩ := lookIn_ns hns
  have l : List.lookup ("at" : Str) (atF v) = some v := by simp [List.lookup]
  obtain ⟨u, hu, ru⟩ := RelO.some_of (v := v) (o := mA "at") (by rw [← l]; exact hr "at")
  have J : PySem.W.InstAt s1.heap a oe C (some od) := ⟨ha, hz.1, by unfold PySem.W.notCls; rw [hd] <;> rfl, by rw [hz.2]; exact ho⟩
  exact HandSPX.exc_get I1.kIn J T.ga T.gg T.exC (PySem.W.findObj_own T.hdC T.noN rfl (by rw [hl, hu])) (handed_of ru) ⟨v, H1, I1.tok _, ru, q⟩
end
end K9
set_option Elab.async false
set_option linter.all false
set_option maxRecDepth 100000
set_option maxHeartbeats 4000000
/-! for i, x in enumerate(a tuple) -/
namespace K9
open PySem
open Sem (wp)
abbrev itO (a : Addr) : Obj := { cls := .type "tuple_iterator", data := .fields #[.ref a, .int 0 0] }
abbrev enO (it : Addr) : Obj := { cls := .type "enumerate", data := .fields #[.none, .bool false, .ref it, rawInt 0, .none, .none] }
theorem enum_new (a : Addr) (items : Array Value) :
    Meets (Builtin.«enumerate.__new__» ⟨[.type "enumerate", .ref a], []⟩) (fun _ R s => s.heap.IsTuple a items ∧ R (.ok (.ret (.ref (s.heap.push (itO a)).objs.size))) { s with heap := (s.heap.push (itO a)).push (enO s.heap.objs.size) }) :=
  .of_wp fun prog w A R s hh => by
    obtain ⟨hp, g, d, tk, os⟩ := s
    obtain ⟨ht, hr⟩ := hh
    have sb := sub_enumerate
    have go : ∀ {A' : Around} {E : Value → Shared → Prop} {Q : Value → Shared → Prop}, Q (.ref hp.objs.size) ⟨hp.push (itO a), g, d, tk, os⟩ → wpAny (model prog w) A' (pyIter (.ref a)) Q E ⟨hp, g, d, tk, os⟩ := fun q => wpAny_pyIter_tuple ht q
    wp_walk using go
    refine wpAny_stack_any fun st => wpAny_pure ?_
    split
    · rename_i c _ _ _ _ _
      cases (c == Value.type "enumerate") <;> (wp_walk using go; exact ⟨_, rfl, hr⟩)
    · wp_walk using go
      exact ⟨_, rfl, hr⟩
theorem call_enumT {prog : Program} {w : World} {A : Around} {E : Value → Shared → Prop} {s : Shared} {a : Addr} {items : Array Value} {Q : Value → Shared → Prop} (ht : s.heap.IsTuple a items)
    (h : ∀ h', IsEnum h' (s.heap.objs.size + 1) s.heap.objs.size 0 .none → h'.IsTupleIter s.heap.objs.size a 0 → (∀ b o, s.heap.get? b = some o → h'.get? b = some o) → Q (.ref (s.heap.objs.size + 1)) { s with heap := h' }) :
    wpAny (model prog w) A (call (.type "enumerate") [.ref a]) Q E s := by
  refine callType_new F.called_enumerate (by decide) (F.typeCall_enumerate_1 _) (F.newCall_enumerate_1 _) (fun obj => F.args_object_init_2 obj _) F.entry_enumerate_new (enum_new a items) ⟨ht, ?_⟩
  have hz : (s.heap.push (itO a)).objs.size = s.heap.objs.size + 1 := Heap.size_push ..
  show _ ∧ _
  rw [hz]
  have he : IsEnum ((s.heap.push (itO a)).push (enO s.heap.objs.size)) (s.heap.objs.size + 1) s.heap.objs.size 0 .none := by
    have q := Heap.get?_push_size (s.heap.push (itO a)) (o := enO s.heap.objs.size) rfl
    rw [hz] at q
    exact q
  exact ⟨⟨_, he, rfl⟩, h _ he ⟨_, Heap.get?_push_of_some _ (Heap.get?_push_size _ rfl), rfl, rfl⟩ fun b o x => Heap.get?_push_of_some _ (Heap.get?_push_of_some _ x)⟩
end K9
namespace K9
open PySem PySem.Spec PyProof.Rows L2
/-- the tuple at a, each item in a new pair -/
def ItT (K : PySem.W.Frag) (a : Addr) : It :=
  ⟨fun i H => ∃ (xs : List V) (x : V), SqT K H a xs ∧ xs[i]? = some x, fun i H v H' => ∃ T x, v = .ref T ∧ H T = none ∧ H' = upd H T (.tup [.int (i : Nat), x]) ∧ ∀ xs, SqT K H a xs → xs[i]? = some x, fun i H => ∃ xs : List V, SqT K H a xs ∧ xs.length = i⟩
theorem turn_enumT {P : Program} {w : World} {K : PySem.W.Frag} {elts : List Expr} {kk : Nat} {tpos : Pos} (a e it : Addr) :
    Turn P w K (.Tuple elts kk tpos) (ItT K a) [e, it] e (fun i h => (∃ old, IsEnum h e it ((i : Nat) : Int) old) ∧ h.IsTupleIter it a i ∧ e ≠ it ∧ a ≠ it ∧ e ≠ a) where
  mem := by simp
  obj := fun i h st b hb => by
    obtain ⟨⟨old, he⟩, ⟨o, ho, hc, hd⟩, _⟩ := st
    have e' : b = e ∨ b = it := by simpa using hb
    rcases e' with rfl | rfl
    · exact ⟨_, he, fun v q => nomatch q⟩
    · exact ⟨o, ho, fun v q => by rw [hd] at q; cases q⟩
  keep := fun i h h' st k => let ⟨⟨old, he⟩, hi, ap⟩ := st; ⟨⟨old, k e (by simp) _ he⟩, hi.at fun o q => k it (by simp) o q, ap⟩
  item := by
    intro X hP hw hK hc i pins s σ H E I hf st hg
    subst hP hw hK
    obtain ⟨⟨old, he⟩, hit, hne, hai, hea⟩ := st
    obtain ⟨xs, x, hq, hx⟩ := hg
    obtain ⟨its, rv, p, hz⟩ := I.tuple hq
    obtain ⟨u, hu, ru⟩ := rv.get hx
    have hu' : its.toArray[i]? = some u := by simpa using hu
    have hel : e < s.heap.objs.size := Heap.lt_size he
    have hil : it < s.heap.objs.size := by obtain ⟨_, q, _⟩ := hit; exact Heap.lt_size q
    have hlt : i < its.toArray.size := (Array.getElem?_eq_some_iff.mp hu').1
    refine wpAny_pyNext_enum_itemD (Draws.tuple (A := X.A.in1) (I.ok.hd hc) it a hai its.toArray) he ⟨hit, p⟩ hlt hne (by simp [hne, hea]) fun y h' tk hy ho hst hT hsz hk => ?_
    have ey : y = u := Option.some.inj (hy.symm.trans hu')
    subst ey
    refine ⟨_, rfl, wpAny_letOwnedTupleGo_enum (s := { s with heap := h', toks := tk + 1 }) ho fun h'' he' sb => ?_⟩
    have hT2 : h''.get? s.heap.objs.size = some { cls := .type "tuple", data := .seq #[.int i tk, y] } := (sb.2 _ (Nat.ne_of_gt hel)).trans hT
    have new : ObjOk X.prog X.w (upd H s.heap.objs.size (.tup [.int (i : Nat), x])) h'' s.heap.objs.size (.tup [.int (i : Nat), x]) :=
      ⟨by show 2 ≤ sizeLine; decide, [.int i tk, y], .cons ⟨_, rfl⟩ (.cons ru .nil), ⟨_, hT2, rfl, _, rfl⟩⟩
    have I1 : Inv X pins σ (upd H s.heap.objs.size (.tup [.int (i : Nat), x])) { s with heap := h'', toks := tk + 1 } :=
      I.turnedNew (ch := [e, it]) (fun b ob hb q => (sb.2 b (fun z => hb (by simp [z]))).trans (hk b ob (fun z => hb (by simp [z])) (fun z => hb (by simp [z])) q)) hf (Nat.le_refl _) new
    refine ⟨.ref s.heap.objs.size, _, I1, rfl, ⟨_, x, rfl, I.hok.fresh (Nat.le_refl _), rfl, fun ys hy => by rw [I.tuple_inj hy hq]; exact hx⟩, ⟨⟨y, ?_⟩, hst.1.at fun o q => (sb.2 it (Ne.symm hne)).trans q, hne, hai, hea⟩, fun b hb => ?_⟩
    · have e1 : ((i + 1 : Nat) : Int) = (i : Int) + 1 := by omega
      rw [e1]
      exact he'
    · have hb' : b < s.heap.objs.size := by
        have e' : b = e ∨ b = it := by simpa using hb
        rcases e' with rfl | rfl
        · exact hel
        · exact hil
      rw [upd_ne (Nat.ne_of_lt hb')]
      exact (hf b hb).1
  done := by
    intro X hP hw hK hc i pins s σ H E I hf st hg
    subst hP hw hK
    obtain ⟨⟨old, he⟩, hit, hne, hai, hea⟩ := st
    obtain ⟨xs, hq, hx⟩ := hg
    obtain ⟨its, rv, p, hz⟩ := I.tuple hq
    obtain ⟨f0, f1, f2, f3, f4, f5⟩ := hf it (by simp)
    have hn : i = its.toArray.size := by rw [← hx, rv.length, List.size_toArray]
    rw [hn] at hit
    exact wpAny_pyNext_enum_endD (Draws.tuple (A := X.A.in1) (I.ok.hd hc) it a hai its.toArray) he ⟨hit, p⟩ fun h' eb => ⟨rfl, I.turned (t' := s.toks) (fun b o hb q => eb b o hb q) f0 f1 f3 f4 f5⟩
  self := fun A i s Q E st h => let ⟨⟨_, he⟩, _⟩ := st; wpAny_pyIter_enum he h
def iEnumT (K : PySem.W.Frag) (ta : TA) : TI := fun σ H R => ta σ H fun vs H1 => ∃ a xs, vs = [.ref a] ∧ SqT K H1 a xs ∧ R (ItT K a) H1
theorem pi_enumT {X : Cx} {e : Expr} {ta : TA} {p pos tpos : Pos} {elts : List Expr} {kk : Nat} (hg : Gl X "enumerate") (hm : X.mg "enumerate" = none) (ha : PA X [e] ta) (hs : starEach [e] X.env = [(false, eval e X.env)] := by rfl) :
    PI X (.Tuple elts kk tpos) (.Call (.Name "enumerate" p) [e] [] pos) (iEnumT X.K ta) := by
  refine ⟨fun pins s σ H R I h => ?_⟩
  refine Call_ (ld_blt I hg hm boot_enumerate (PyProof.Rows.callWith_type1 (thn (ha.run pos pins s σ H _ I h) fun us s1 ⟨vs, H1, I1, r1, q1⟩ => ?_) hs rfl))
  obtain ⟨a, xs, ex, hq, q⟩ := q1
  subst ex
  rw [Vals.ref1 r1]
  obtain ⟨its, rv, p', hz⟩ := I1.tuple hq
  have hal : a < s1.heap.objs.size := by obtain ⟨_, z, _⟩ := id p'; exact Heap.lt_size z
  refine call_enumT (show s1.heap.IsTuple a its.toArray from p') fun h' he hit hk => wpAny_pyIter_enum he ?_
  have I2 : Inv X pins σ H1 { s1 with heap := h' } := I1.kept (t' := s1.toks) hk
  refine ⟨s1.heap.objs.size + 1, [s1.heap.objs.size + 1, s1.heap.objs.size], _, _, H1, rfl, I2, turn_enumT a (s1.heap.objs.size + 1) s1.heap.objs.size, ⟨⟨.none, he⟩, hit, Nat.succ_ne_self _, Nat.ne_of_lt hal, Nat.ne_of_gt (Nat.lt_succ_of_lt hal)⟩, fun b hb => ?_, q⟩
  have e' : b = s1.heap.objs.size + 1 ∨ b = s1.heap.objs.size := by simpa using hb
  have hle : s1.heap.objs.size ≤ b := by
    rcases e' with z | z
    · rw [z]; exact Nat.le_add_right _ _
    · rw [z]; exact Nat.le_refl _
  exact I1.fpOk hle (I1.hok.fresh hle)
/-- n turns over the tuple at a -/
theorem walk_enumT {K : PySem.W.Frag} {a : Addr} {xs : List V} : Walk (ItT K a) xs.length (fun H => SqT K H a xs) (YPair (fun i => some (.int (i : Nat))) (fun i => xs[i]?)) := by
  refine ⟨fun i _ hi q => ⟨xs, xs[i], q, by simp [hi]⟩, fun _ q => ⟨xs, q, rfl⟩, fun i H v H' _ q y => ?_⟩
  obtain ⟨T, x, h1, h2, h3, h4⟩ := y
  exact ⟨T, .int (i : Nat), x, h1, h2, h3, rfl, h4 xs q⟩
end K9
set_option Elab.async false
set_option linter.all false
set_option maxRecDepth 100000
set_option maxHeartbeats 4000000
namespace K9
open PySem PySem.Spec PyProof.Rows L2 Evl
open PySem.PeX (PeTxt)
section
variable {P : Program} {w : World} {K : PySem.W.Frag} {mg : Str → Option Value} {base : Heap}
/-! ### defs that may raise -/
structure CalX (P : Program) (w : World) (K : PySem.W.Frag) (mg : Str → Option Value) (base : Heap) (k : Nat) (x : Str) (sp : Sp) : Prop where
  ex : ∃ f fd ps, FnOk P w K mg base (L2.CX P w) k f fd ps sp ∧ mg x = some (.ref f) ∧ PySem.W.keepIn K (.ref f) = true ∧ Binds K fd ps []
theorem calX_of {x : Str} {st : Stmt} {N ps : List Str} {k : Nat} {sp : Sp} (D : DefOk K mg x st) (S : FnScope N ps (defScope st))
    (bnd : ∀ (kV doc pm : Value) (an : Option Addr) (cdv ct : Value) (us : List Value), us.length = ps.length → bindArgs (PySem.W.fnOf x x (defArgs st) (defBody st) (defScope st) .none kV doc pm an cdv ct) ⟨us, []⟩ = pure (ps.zip us))
    (len : ∀ vs H Q E, sp vs H Q E → vs.length = ps.length)
    (hbody : ∀ (f : Addr) (cdv : Value) (A : Around) (outer : List Env) (s : Shared) (H : Hp) (vs : List V) (Q : VK) (E : XK), Room k (A.deeper (envOfC x (defScope st) s.heap.objs.size f cdv)) → sp vs H Q E →
      ∃ t, PSs (cxOf (L2.CX P w) P w K mg base N x (defScope st) f cdv A outer s H E) (defBody st) t ∧ t { nx := fun _ H' => Q .non H', rt := Q } (start N vs) H) : CalX P w K mg base (k + 1) x sp := by
  obtain ⟨f, fd, F, hm⟩ := D.ex
  exact ⟨f, fd, ps, F.ok S len fun cdv A outer s H vs Q E hr hsp => hbody f cdv A outer s H vs Q E hr hsp, hm, F.kp, F.bindsN bnd⟩
section
variable {X : Cx} {k j : Nat} {x : Str} {sp : Sp} {p pos : Pos} {e : Expr} {es : List Expr} {t : TA} {W : WX} {E : XK}
theorem pe_cX (c : CalX X.prog X.w X.K X.mg X.base k x sp) (hr : Room j X.A) (hk : k ≤ j) (hg : Gl X x) (tk : Takes X W) (hW : ∀ cls d σ H, E cls d H → W cls d σ H) (ha : PA X (e :: es) t)
    (hdb : (x == ("__debug__" : Str)) = false := by decide) (he : starEach (e :: es) X.env = (false, eval e X.env) :: starEach es X.env := by rfl) (hpl : (backTo pos (starEach es X.env)).any (·.1) = false := by rfl) :
    PE X (.Call (.Name x p) (e :: es) [] pos) (tCall sp [] E t) := by
  obtain ⟨f, fd, ps, F, hm, kp, b⟩ := c.ex
  exact pe_call F (hr.mono hk) hg hm kp b .nil (passes_call tk hW) ha hdb he hpl
theorem pe_cS {Es : L2.St → XK} (c : CalX X.prog X.w X.K X.mg X.base k x sp) (hr : Room j X.A) (hk : k ≤ j) (hg : Gl X x) (hx : ∀ σ, PassesAt (L2.CX X.prog X.w) X σ (Es σ)) (ha : PA X (e :: es) t)
    (hdb : (x == ("__debug__" : Str)) = false := by decide) (he : starEach (e :: es) X.env = (false, eval e X.env) :: starEach es X.env := by rfl) (hpl : (backTo pos (starEach es X.env)).any (·.1) = false := by rfl) :
    PE X (.Call (.Name x p) (e :: es) [] pos) (tCallS sp Es t) := by
  obtain ⟨f, fd, ps, F, hm, kp, b⟩ := c.ex
  exact pe_callS F (hr.mono hk) hg hm kp b hx ha hdb he hpl
end
/-- an error that tells n leaves -/
def Rz (C : Addr) (n : Nat) (H : Hp) (E : XK) : Prop := ∀ d H', Ex H H' → H' d = some (.xd (atF (vI n))) → E (.ref C) (some d) H'
theorem Rz.mono {C : Addr} {n : Nat} {H H' : Hp} {E : XK} (h : Rz C n H E) (e : Ex H H') : Rz C n H' E := fun d H2 e2 h2 => h d H2 (e.trans e2) h2
theorem s_raise {C : Addr} {n : Nat} {σ : L2.St} {H : Hp} {E : XK} {D : Ends} {ta : TA} (h : EvA ta σ H [vI n]) (k : Rz C n H E) : tRaisePe C (fun cls d _ H => E cls d H) ta D σ H :=
  h H (Ex.refl H) _ fun H1 e1 => ⟨vI n, rfl, fun d hd => k d _ (e1.trans (Ex.new hd)) upd_same⟩
/-! ### words_in -/
def SpWi (C : Addr) : Sp := fun vs H Q E => ∃ w : Mi.Tx, vs = [vS w] ∧ w.length ≤ 10000 ∧
  (([] : Mi.Tx) ∈ (TL.spl [32] 0 [] w).tail → Rz C 0 H E) ∧ (([] : Mi.Tx) ∉ (TL.spl [32] 0 [] w).tail → ∀ p H', Ex H H' → H' p = some (.lst ((TL.spl [32] 0 [] w).map vS)) → Q (.ref p) H')
theorem inV_S (a : Mi.Tx) (ws : List Mi.Tx) : inV (vS a) (ws.map vS) = decide (a ∈ ws) := by
  unfold inV
  rw [List.any_map]
  induction ws with
  | nil => rfl
  | cons b ws ih =>
    rw [List.any_cons, ih]
    have e : ((fun y => eqV y (vS a)) ∘ vS) b = decide (b = a) := by
      show (Mi.S b == Mi.S a) = _
      exact SX.S_beq_eq
    rw [e, Bool.eq_iff_iff]
    simp only [Bool.or_eq_true, decide_eq_true_eq, List.mem_cons]
    exact ⟨fun h => h.elim (fun h => .inl h.symm) .inr, fun h => h.elim (fun h => .inl h.symm) .inr⟩
theorem flat_S (ws : List Mi.Tx) : (ws.map vS).all flatV = true := by
  rw [List.all_map, List.all_eq_true]
  intro _ _
  rfl
theorem cut_tail (xs : List V) : cutV xs (some 1) none = xs.tail := by
  cases xs with
  | nil => rfl
  | cons x xs => exact cut1 x xs
/-- xs[1:] of a new list, of a known one -/
theorem el_tail {σ : L2.St} {H : Hp} {ta : TE} {xs : List V} (h : EvL ta σ H xs) : EvL (tSl (rSlL K) ta (tPart (tC (.int 1))) tNoPart) σ H xs.tail := fun H1 e Q q =>
  h H1 e _ fun p H2 hp e2 h2 => ⟨1, rfl, p, xs, rfl, sq_of h2, fun l hl => q l _ (fresh_back e2 hl) (e2.trans (Ex.new hl)) (by rw [upd_same, cut_tail])⟩
theorem el_tailV {σ : L2.St} {H : Hp} {ta : TE} {xs : List V} {p : Addr} (h : Ev ta σ H (.ref p)) (hx : SqL K H p xs) : EvL (tSl (rSlL K) ta (tPart (tC (.int 1))) tNoPart) σ H xs.tail := fun H1 e Q q =>
  h H1 e _ fun H2 e2 => ⟨1, rfl, p, xs, rfl, ex_l (e.trans e2) hx, fun l hl => q l _ (fresh_back e2 hl) (e2.trans (Ex.new hl)) (by rw [upd_same, cut_tail])⟩
theorem ev_inL {σ : L2.St} {H : Hp} {ta tb : TE} {x : V} {xs : List V} (h : Ev ta σ H x) (h2 : EvL tb σ H xs) (hx : flatV x = true) (hf : xs.all flatV = true) : Ev (tOp (rIn K false) ta tb) σ H (.bl (inV x xs)) := ev_opL h h2 fun _ _ hp _ => rv_isL (sq_of hp) hx hf
abbrev N_words_in : List Str := ["value"]
theorem S_words_in : FnScope N_words_in ["value"] (defScope (top 54)) := ⟨rfl, rfl, rfl, by decide +kernel, rfl, by decide +kernel, by decide +kernel⟩
theorem B_words_in (kV doc pm : Value) (an : Option Addr) (cdv ct : Value) (us : List Value) (hl : us.length = (["value"] : List Str).length) : bindArgs (PySem.W.fnOf "words_in" "words_in" (defArgs (top 54)) (defBody (top 54)) (defScope (top 54)) .none kV doc pm an cdv ct) ⟨us, []⟩ = pure ((["value"] : List Str).zip us) := match us, hl with | [_], _ => rfl
variable {C fI : Addr}
theorem c_words_in (D : DefOk K mg "words_in" (top 54)) (G : Gb mg) (pe : PeTxt P K mg C fI) : CalX P w K mg base 1 "words_in" (SpWi C) := calX_of D S_words_in B_words_in (fun vs H Q E h => by obtain ⟨v, rfl, _⟩ := h; rfl) fun f cdv A outer s H vs Q E hr h => by
  refine ⟨_, (pss_cons (ps_if ((pw_or (pt_not (pt_val (pe_callB call_isi (by rfl) G.f_isinstance boot_isinstance (pa_cons (pv 0) (pa_cons (pe_bltn (v := .ty "str") (by rfl) G.f_str boot_str rfl) pa_nil))))) (pw_or1 (pt_cmpR op_in_seq pe_str (pe_slice sl_list (pe_split (pv 0) pe_str) (po_some pe_int) po_none) (by with_unfolding_all rfl))))).pt (pss_one (ps_raisePe rfl pe hr (takes_of rfl rfl rfl rfl) (pa_cons pe_int pa_nil))) pss_nil)
  (pss_one (ps_ret (pe_split (pv 0) pe_str)))), ?_⟩
  obtain ⟨w, rfl, hz, k1, k2⟩ := h
  refine q_when (b := decide (([] : Mi.Tx) ∈ (TL.spl [32] 0 [] w).tail)) (et_is (et_or (a := false) (et_not (a := true) (et_B (ev_isi (b := true) (ev_var rfl) (fun _ _ => ty_str) (by decide +kernel)))) fun _ => et_test (ev_inL (x := vS []) ev_c (el_tail (el_split (c := 32) (ev_var rfl) ev_c (by decide) (by omega))) rfl (by rw [← List.map_tail]; exact flat_S _))) ?_) (fun hb H1 e1 => ?_) fun hb H1 e1 => ?_
  · rw [← List.map_tail, inV_S] <;> rfl
  · exact s_raise (n := 0) (ea1 ev_c) ((k1 (of_decide_eq_true hb)).mono e1)
  · exact s_retL (el_split (c := 32) (ev_var rfl) ev_c (by decide) (by omega)) fun p H2 hp e2 h2 => k2 (of_decide_eq_false hb) p H2 (e1.trans e2) h2
/-! ### told_by -/
variable {aW aS aC aD aQ : Addr} {fS fC fD fQ : Str → Option V}
def SpTold (K : PySem.W.Frag) (C : Addr) : Sp := fun vs H Q E => ∃ (p : Addr) (ws : List Mi.Tx) (b : Bool), vs = [.ref p, .bl b] ∧ SqL K H p (ws.map vS) ∧ ws ≠ [] ∧ (∀ z ∈ ws, z.length ≤ 10000) ∧ ws.length ≤ 10001 ∧
  match Mi.told b ws with
  | .ok ds => ∀ l vs H', Ex H H' → H' l = some (.lst vs) → DtAll K H' vs ds → Q (.ref l) H'
  | .error n => Rz C n H E
theorem forms_small {b : Bool} {w : Mi.Tx} {fs : List Nat} (h : Mi.forms b w = some fs) : fs.length ≤ 4 ∧ ∀ f ∈ fs, f ≤ 4 := by
  unfold Mi.forms at h
  split at h
  · split at h
    · cases h; decide
    · split at h
      · cases h; decide
      · split at h
        · cases h; decide
        · split at h
          · cases h; decide
          · cases h
  · split at h
    · cases h; decide
    · split at h
      · cases h; decide
      · split at h
        · cases h; decide
        · cases h
theorem forms_ren {b : Bool} {fs : List Nat} (h : Mi.forms b Mi.wRename = some fs) : ∀ f ∈ fs, f = 0 := by
  cases b with
  | true =>
    have e : Mi.forms true Mi.wRename = some [0, 0] := by decide +kernel
    rw [e] at h
    cases h
    decide
  | false =>
    have e : Mi.forms false Mi.wRename = none := by decide +kernel
    rw [e] at h
    cases h
theorem part_some {f : Nat} {z : Mi.Tx} {d : PyData} (h : Mi.part f z = some d) : d ≠ .none := by
  intro e
  subst e
  unfold Mi.part at h
  split at h
  · split at h <;> cases h
  · split at h
    · cases hs : Mi.save z <;> rw [hs] at h <;> cases h
    · split at h
      · cases hs : Mi.cells z with
        | none => rw [hs] at h; cases h
        | some cs =>
          rw [hs] at h
          change (if cs.length ≤ 48 then some (Mi.dC cs) else none) = some PyData.none at h
          split at h <;> cases h
      · cases hs : Mi.num 5 (if f = 3 then 996 else 995) z <;> rw [hs] at h <;> cases h
theorem part_ren {z : Mi.Tx} {d : PyData} (h : Mi.part 0 z = some d) : d = Mi.dS z := by
  rw [part_0] at h
  split at h
  · cases h; rfl
  · cases h
theorem dt_ne {H : Hp} {x : V} {d : PyData} (h : Dt K H x d) (hd : d ≠ .none) : decide (x = .non) = false := by
  refine decide_eq_false fun e => ?_
  subst e
  cases h
  exact hd rfl
theorem dtAll_strs {H : Hp} : ∀ {ts : List Mi.Tx} {vs : List V}, DtAll K H vs (ts.map Mi.dS) → vs = ts.map vS
  | [], _, h => by cases h; rfl
  | t :: ts, _, h => by
    cases h with
    | cons h1 h2 => rw [Dt.str_inv h1, dtAll_strs h2] <;> rfl
theorem any_strs (ts : List Mi.Tx) (a : Mi.Tx) : ((ts.map Mi.dS).any fun z => PyData.eqv z (Mi.dS a)) = decide (a ∈ ts) := by
  induction ts with
  | nil => rfl
  | cons b ts ih =>
    rw [List.map_cons, List.any_cons, ih, Mi.dS_eqv, Bool.eq_iff_iff]
    simp only [Bool.or_eq_true, decide_eq_true_eq, List.mem_cons]
    exact ⟨fun h => h.elim (fun h => .inl h.symm) .inr, fun h => h.elim (fun h => .inl h.symm) .inr⟩
abbrev N_told_by : List Str := ["words", "is_deed", "forms", "found", "at", "form", "part"]
theorem S_told_by : FnScope N_told_by ["words", "is_deed"] (defScope (top 55)) := ⟨rfl, rfl, rfl, by decide +kernel, rfl, by decide +kernel, by decide +kernel⟩
theorem B_told_by (kV doc pm : Value) (an : Option Addr) (cdv ct : Value) (us : List Value) (hl : us.length = (["words", "is_deed"] : List Str).length) : bindArgs (PySem.W.fnOf "told_by" "told_by" (defArgs (top 55)) (defBody (top 55)) (defScope (top 55)) .none kV doc pm an cdv ct) ⟨us, []⟩ = pure ((["words", "is_deed"] : List Str).zip us) := match us, hl with | [_, _], _ => rfl
end
end K9
set_option Elab.async false
set_option linter.all false
set_option maxRecDepth 100000
set_option maxHeartbeats 4000000
namespace K9
open PySem PySem.Spec PyProof.Rows L2 Evl
open PySem.PeX (PeTxt)
section
variable {P : Program} {w : World} {K : PySem.W.Frag} {mg : Str → Option Value} {base : Heap}
variable {C fI : Addr} {aW aS aC aD aQ : Addr} {fS fC fD fQ : Str → Option V}
theorem go_stop {ren : Bool} {ws : List Mi.Tx} {ds : List PyData} : Mi.go ren [] ws ds = if ws = [] then .ok ds else .error ds.length := by
  cases ws with
  | nil => rfl
  | cons _ _ => rfl
theorem q_forE {D : Ends} {σ : L2.St} {H : Hp} {ta : TA} {g : TG} {tu tz : TS} {a : Addr} {xs : List V} (h : EvA ta σ H [.ref a]) (hx : ∀ H', SqT K H' a xs) (Pv : Nat → L2.St → Hp → Prop) (h0 : ∀ H1, Ex H H1 → Pv 0 σ H1)
    (hs : ∀ i x σ' H', xs[i]? = some x → Pv i σ' H' → ∀ T, H' T = none → g (.ref T) σ' (upd H' T (.tup [.int ((i : Nat) : Int), x])) fun σ2 H2 => tu { D with nx := Pv (i + 1), ct := Pv (i + 1), bk := tz D } σ2 H2) (hd : ∀ σ' H', Pv xs.length σ' H' → tz D σ' H') : tSeq (tFor (iEnumT K ta) g tu) tz D σ H :=
  h H (Ex.refl H) _ fun H1 e1 => ⟨a, xs, rfl, hx H1, for_it (D := { D with nx := tz D }) walk_enumT Pv (h0 H1 e1) (fun _ _ H' _ _ => hx H') (by
    rintro i x σ' H6 H7 hi hp ⟨Tp, x0, y0, rfl, hTp, rfl, hx0, hy0⟩
    cases hx0
    exact hs i y0 σ' H6 hy0 hp Tp hTp) hd⟩
theorem c_told_by (D : DefOk K mg "told_by" (top 55)) (G : Gb mg) (T : Tb K w mg aW aS aC aD aQ fS fC fD fQ) (pe : PeTxt P K mg C fI) (c_part_in : C8.Cal P w K mg base 5 "part_in" (Spd K p_part_in) []) : CalX P w K mg base 6 "told_by" (SpTold K C) := calX_of D S_told_by B_told_by (fun vs H Q E h => by obtain ⟨p, ws, b, rfl, _⟩ := h; rfl) fun f cdv A outer s H vs Q E hr h => by
  refine ⟨_, (pss_cons (ps_par (i := 2) (j := 3) rfl S_told_by.nd rfl rfl (by decide) rfl rfl (pa_cons (pe_ifExp (pt_val (pv 1)) (pe_wget T.D_DEEDS (C8.pe_gc (by rfl) T.c_DEEDS) (pe_ix ix_list (pv 0) pe_int (fun _ _ => rfl)) pe_non ⟨rfl, rfl, rfl, rfl⟩) (pe_wget T.D_QUESTIONS (C8.pe_gc (by rfl) T.c_QUESTIONS) (pe_ix ix_list (pv 0) pe_int (fun _ _ => rfl)) pe_non ⟨rfl, rfl, rfl, rfl⟩)) (pa_cons (pe_lst (pa_cons (pe_ix ix_list (pv 0) pe_int (fun _ _ => rfl)) pa_nil)) pa_nil)) (by first | rfl | decide +kernel))
  (pss_cons (ps_if (pt_cmpR op_isN (pv 2) pe_non (nomark _)) (pss_one (ps_raisePe rfl pe hr (takes_of rfl rfl rfl rfl) (pa_cons pe_int pa_nil))) pss_nil)
  (pss_cons (ps_for (passes_of rfl) rfl (pi_enumT (by rfl) G.f_enumerate (pa_cons (pv 2) pa_nil)) (pg_tup rfl (pgs_cons (pg_name (i := 4) S_told_by.nd rfl (Or.inl rfl)) (pgs_cons (pg_name (i := 5) S_told_by.nd rfl (Or.inl rfl)) pgs_nil)))
    (pss_cons (ps_set (i := 6) S_told_by.nd rfl (by first | exact Or.inl rfl | exact Or.inr rfl) (pe_ifExp (pt_cmpR op_lt (pe_op op_add (pv 4) pe_int) (pe_callB call_len_seq (by rfl) G.f_len boot_len (pa_cons (pv 0) pa_nil)) (nomark _)) (C8.pe_c c_part_in hr (by decide) (by rfl) (pa_cons (pv 5) (pa_cons (pe_ix ix_list (pv 0) (pe_op op_add (pv 4) pe_int) (fun _ _ => rfl)) pa_nil))) pe_non))
    (pss_cons (ps_if ((pw_or (pt_cmpR op_isN (pv 6) pe_non (nomark _)) (pw_or1 ((pw_and (pt_cmpR op_eq (pe_ix ix_list (pv 0) pe_int (fun _ _ => rfl)) (C8.pe_gc (by rfl) G.c_RENAME) (nomark _)) (pw_and1 (pt_cmpR op_in_seq (pv 6) (pe_slice sl_list (pv 3) (po_some pe_int) po_none) (by with_unfolding_all rfl))))).pt))).pt (pss_one (ps_raisePe rfl pe hr (takes_of rfl rfl rfl rfl) (pa_cons (pe_op op_add (pv 4) pe_int) pa_nil))) pss_nil)
    (pss_one (ps_expr (pe_bm PySem.F.plainAttrs_list PySem.F.slot_list_append PySem.F.type_list_append mt_append (pv 3) (pa_cons (pv 6) pa_nil)))))))
  (pss_cons (ps_if (pt_cmpR op_gt (pe_callB call_len_seq (by rfl) G.f_len boot_len (pa_cons (pv 0) pa_nil)) (pe_callB call_len_seq (by rfl) G.f_len boot_len (pa_cons (pv 3) pa_nil)) (nomark _)) (pss_one (ps_raisePe rfl pe hr (takes_of rfl rfl rfl rfl) (pa_cons (pe_callB call_len_seq (by rfl) G.f_len boot_len (pa_cons (pv 3) pa_nil)) pa_nil))) pss_nil)
  (pss_one (ps_ret (pv 3))))))), ?_⟩
  obtain ⟨p, ws, b, rfl, hws, hne, hlen, hn, hk⟩ := h
  obtain ⟨w0, wr, rfl⟩ : ∃ w0 wr, ws = w0 :: wr := by
    cases ws with
    | nil => exact absurd rfl hne
    | cons a r => exact ⟨a, r, rfl⟩
  have hw0 : ∀ {σ : L2.St} {H1 : Hp} {te : TE}, Ex H H1 → Ev te σ H1 (.ref p) → Ev (tOp (rIxL K) te (tC (.int 0))) σ H1 (vS w0) := fun {σ H1 te} e h => ev_op h ev_c (rv_ixL (ex_l e hws) (atI_nat (j := 0) rfl))
  -- forms, found
  have hF : Ev (tIf (tB (tVar 1)) (tWGet aD fD (tC (.ref aD)) (tOp (rIxL K) (tVar 0) (tC (.int 0))) (tC .non)) (tWGet aQ fQ (tC (.ref aQ)) (tOp (rIxL K) (tVar 0) (tC (.int 0))) (tC .non))) (start N_told_by [.ref p, .bl b]) H (((if b = true then fD (Mi.S w0) else fQ (Mi.S w0))).getD .non) :=
    ev_if (b := b) (et_B (ev_var rfl)) (fun hb => by rw [if_pos hb]; exact ev_wget ev_c (hw0 (Ex.refl H) (ev_var rfl)) ev_c) fun hb => by rw [if_neg (by rw [hb]; decide)]; exact ev_wget ev_c (hw0 (Ex.refl H) (ev_var rfl)) ev_c
  refine hF H (Ex.refl H) _ fun H1 e1 => hw0 e1 (ev_var rfl) H1 (Ex.refl H1) _ fun H2 e2 => ⟨by show 1 ≤ sizeLine; decide, fun l hl => ⟨_, _, rfl, ?_⟩⟩
  have e02 : Ex H (upd H2 l (.lst [vS w0])) := (e1.trans e2).trans (Ex.new hl)
  have hlH : H l = none := fresh_back (e1.trans e2) hl
  have hFA : FormAt K (if b = true then fD (Mi.S w0) else fQ (Mi.S w0)) (Mi.forms b w0) := by
    cases b with
    | true => exact T.deeds w0
    | false => exact T.quests w0
  have hl3 : (upd H2 l (.lst [vS w0])) l = some (.lst [vS w0]) := upd_same
  revert e02 hl3
  generalize upd H2 l (.lst [vS w0]) = H3
  intro e03 hl3
  cases hfm : Mi.forms b w0 with
  | none =>
    rw [hfm] at hFA
    have e0 : (if b = true then fD (Mi.S w0) else fQ (Mi.S w0)) = none := hFA
    have hk0 : Mi.told b (w0 :: wr) = .error 0 := by
      show (match Mi.forms b w0 with | none => Except.error 0 | some fs => Mi.go (decide (w0 = Mi.wRename)) fs wr [Mi.dS w0]) = _
      rw [hfm]
    rw [hk0] at hk
    rw [e0]
    exact q_when (b := true) (et_is (et_op (ev_var rfl) ev_c rv_isN) rfl) (fun _ H4 e4 => s_raise (n := 0) (ea1 ev_c) (hk.mono (e03.trans e4))) fun h => nomatch h
  | some fs =>
    rw [hfm] at hFA
    obtain ⟨aF, e0, hKF⟩ := hFA
    have hk0 : Mi.told b (w0 :: wr) = Mi.go (decide (w0 = Mi.wRename)) fs wr [Mi.dS w0] := by
      show (match Mi.forms b w0 with | none => Except.error 0 | some fs => Mi.go (decide (w0 = Mi.wRename)) fs wr [Mi.dS w0]) = _
      rw [hfm]
    rw [hk0] at hk
    rw [e0]
    obtain ⟨hfs, hf4⟩ := forms_small hfm
    refine q_when (b := false) (et_is (et_op (ev_var rfl) ev_c rv_isN) rfl) (fun h => nomatch h) fun _ H4 e4 => ?_
    have e04 := e03.trans e4
    have hl4 := e4 l _ hl3
    refine q_forE (ea1 (ev_var rfl)) hKF (fun i σ' H' => ∃ ds vs, Ex H H' ∧ H' l = some (.lst vs) ∧ DtAll K H' vs ds ∧ ds.length = i + 1 ∧ Mi.go (decide (w0 = Mi.wRename)) fs wr [Mi.dS w0] = Mi.go (decide (w0 = Mi.wRename)) (fs.drop i) (wr.drop i) ds ∧
      (w0 = Mi.wRename → ∃ ts : List Mi.Tx, ds = ts.map Mi.dS) ∧ ∃ x y z, σ' = [some (.ref p), some (.bl b), some (.ref aF), some (.ref l), x, y, z]) (fun H5 e5 => ⟨[Mi.dS w0], [vS w0], e04.trans e5, e5 l _ hl4, .cons (.str _) .nil, rfl, rfl, fun _ => ⟨[w0], rfl⟩, _, _, _, rfl⟩) ?_ ?_
    · rintro i y0 σ' H6 hy0 ⟨ds, vs, e6, hl6, hd6, hlen6, hgo, hren, x1, y1, z1, rfl⟩ Tp hTp
      have hi : i < fs.length := by
        have := (List.getElem?_eq_some_iff.mp hy0).1
        rwa [List.length_map] at this
      obtain ⟨f, hf⟩ : ∃ f, fs[i]? = some f := ⟨fs[i], by simp [hi]⟩
      have ey : y0 = vS (fN f) := by
        rw [List.getElem?_map, hf] at hy0
        exact (Option.some.inj hy0).symm
      subst ey
      have hfm4 := hf4 f (List.mem_of_getElem? hf)
      have e67 : Ex H6 (upd H6 Tp (.tup [.int ((i : Nat) : Int), vS (fN f)])) := Ex.new hTp
      refine ⟨Tp, _, rfl, st_of upd_same, rfl, _, _, rfl, _, _, rfl, rfl, ?_⟩
      revert e67
      generalize upd H6 Tp (.tup [.int ((i : Nat) : Int), vS (fN f)]) = H8
      intro e68
      have e08 := e6.trans e68
      have hl8 := e68 l _ hl6
      have hd8 := hd6.ex e68
      have hvl : vs.length = i + 1 := hd6.length.trans hlen6
      have hdrop : fs.drop i = f :: fs.drop (i + 1) := by
        have h1 : i < fs.length := hi
        have h2 := List.drop_eq_getElem_cons h1
        rw [h2]
        congr 1
        have := List.getElem?_eq_getElem h1
        rw [hf] at this
        exact (Option.some.inj this).symm
      rw [hdrop] at hgo
      -- part = ...
      show tSeq (tAsg _ _) _ _ [some (.ref p), some (.bl b), some (.ref aF), some (.ref l), some (.int ((i : Nat) : Int)), some (vS (fN f)), z1] H8
      cases hwr : wr.drop i with
      | nil =>
        have hle : wr.length ≤ i := List.drop_eq_nil_iff.mp hwr
        rw [hwr] at hgo
        change Mi.go (decide (w0 = Mi.wRename)) fs wr [Mi.dS w0] = .error ds.length at hgo
        rw [hgo] at hk
        refine q_asg (v := .non) (ev_if (b := false) (et_is (et_op (ev_op (ev_var rfl) ev_c rv_I0) (ev_lenL (ev_var rfl) (ex_l e08 hws)) rv_I0) (decide_eq_false (by rw [List.length_map, List.length_cons]; omega))) (fun h => nomatch h) fun _ => ev_c) fun H9 e9 => ?_
        refine q_when (b := true) (et_or (a := true) (b := false) (et_op (ev_var rfl) ev_c rv_isN) fun h => nomatch h) (fun _ H10 e10 => ?_) fun h => nomatch h
        refine s_raise (n := ds.length) (ea1 (ev_is (ev_op (ev_var rfl) ev_c rv_I0) ?_)) (hk.mono ((e08.trans e9).trans e10))
        rw [hlen6] <;> rfl
      | cons z zr =>
        have hlt : i < wr.length := by
          rcases Nat.lt_or_ge i wr.length with h | h
          · exact h
          · rw [List.drop_eq_nil_iff.mpr h] at hwr
            cases hwr
        have hz : wr[i]? = some z := by
          have h2 := List.drop_eq_getElem_cons hlt
          rw [hwr] at h2
          rw [List.getElem?_eq_getElem hlt, ← (List.cons.inj h2).1]
        have hzr : wr.drop (i + 1) = zr := by
          have h2 := List.drop_eq_getElem_cons hlt
          rw [hwr] at h2
          exact (List.cons.inj h2).2.symm
        have hzl : z.length ≤ 10000 := hlen z (List.mem_cons_of_mem _ (List.mem_of_getElem? hz))
        rw [hwr] at hgo
        have hws1 : Ev (tOp (rIxL K) (tVar 0) (tOp (rI0 fun i j => .int (i + j)) (tVar 4) (tC (.int 1)))) [some (.ref p), some (.bl b), some (.ref aF), some (.ref l), some (.int ((i : Nat) : Int)), some (vS (fN f)), z1] H8 (vS z) :=
          ev_op (ev_var rfl) (ev_op (ev_var rfl) ev_c rv_I0) (rv_ixL (ex_l e08 hws) (show atI ((w0 :: wr).map vS) ((i + 1 : Nat) : Int) = some (vS z) from atI_nat (by rw [List.map_cons, List.getElem?_cons_succ, List.getElem?_map, hz] <;> rfl)))
        refine q_asgD (K := K) (d := oD (Mi.part f z)) (ed_if (b := true) (et_is (et_op (ev_op (ev_var rfl) ev_c rv_I0) (ev_lenL (ev_var rfl) (ex_l e08 hws)) rv_I0) (decide_eq_true (by rw [List.length_map, List.length_cons]; omega))) (fun _ => ed_cal (ea2 (ev_var rfl) hws1) fun _ _ => ⟨f, z, rfl, hfm4, hzl, rfl⟩) fun h => nomatch h) fun x H9 e9 hx => ?_
        have e09 := e08.trans e9
        cases hp : Mi.part f z with
        | none =>
          have hg2 : Mi.go (decide (w0 = Mi.wRename)) (f :: fs.drop (i + 1)) (z :: zr) ds = .error ds.length := by
            show (match Mi.part f z with | none => Except.error ds.length | some d => if (decide (w0 = Mi.wRename) && (ds.drop 1).any fun z => PyData.eqv z d) = true then Except.error ds.length else Mi.go (decide (w0 = Mi.wRename)) (fs.drop (i + 1)) zr (ds ++ [d])) = _
            rw [hp]
          rw [hgo, hg2] at hk
          rw [hp] at hx
          have h0 := Dt.non_inv hx
          subst h0
          refine q_when (b := true) (et_or (a := true) (b := false) (et_op (ev_var rfl) ev_c rv_isN) fun h => nomatch h) (fun _ H10 e10 => ?_) fun h => nomatch h
          refine s_raise (n := ds.length) (ea1 (ev_is (ev_op (ev_var rfl) ev_c rv_I0) ?_)) (hk.mono (e09.trans e10))
          rw [hlen6] <;> rfl
        | some d =>
          have hg2 : Mi.go (decide (w0 = Mi.wRename)) (f :: fs.drop (i + 1)) (z :: zr) ds = if (decide (w0 = Mi.wRename) && (ds.drop 1).any fun z => PyData.eqv z d) = true then Except.error ds.length else Mi.go (decide (w0 = Mi.wRename)) (fs.drop (i + 1)) zr (ds ++ [d]) := by
            show (match Mi.part f z with | none => Except.error ds.length | some d => if (decide (w0 = Mi.wRename) && (ds.drop 1).any fun z => PyData.eqv z d) = true then Except.error ds.length else Mi.go (decide (w0 = Mi.wRename)) (fs.drop (i + 1)) zr (ds ++ [d])) = _
            rw [hp]
          rw [hp] at hx
          change Dt K H9 x d at hx
          have hxn := dt_ne hx (part_some hp)
          have hl9 := e9 l _ hl8
          have hd9 := hd8.ex e9
          have hmem : w0 = Mi.wRename → ∃ ts : List Mi.Tx, x = vS z ∧ vs = ts.map vS ∧ ds = ts.map Mi.dS ∧ d = Mi.dS z ∧ ((ds.drop 1).any fun z => PyData.eqv z d) = decide (z ∈ ts.tail) := fun hw => by
            obtain ⟨ts, rfl⟩ := hren hw
            have h1 : f = 0 := forms_ren (by rw [← hw]; exact hfm) f (List.mem_of_getElem? hf)
            subst h1
            have h2 := part_ren hp
            subst h2
            refine ⟨ts, Dt.str_inv hx, dtAll_strs hd9, rfl, rfl, ?_⟩
            rw [List.drop_one, ← List.map_tail, any_strs]
          refine q_when (b := (decide (w0 = Mi.wRename) && (ds.drop 1).any fun z => PyData.eqv z d)) (et_is (et_or (a := false) (b := (decide (w0 = Mi.wRename) && (ds.drop 1).any fun z => PyData.eqv z d)) (et_is (et_op (ev_var rfl) ev_c rv_isN) hxn) fun _ => et_and (et_op (hw0 e09 (ev_var rfl)) ev_c (rv_eqS (b := Mi.wRename))) fun hw => ?_) (Bool.false_or _)) (fun hb H10 e10 => ?_) fun hb H10 e10 => ?_
          · obtain ⟨ts, rfl, rfl, _, _, h5⟩ := hmem (of_decide_eq_true hw)
            rw [h5, ← inV_S, List.map_tail]
            exact et_test (ev_inL (ev_var rfl) (el_tailV (ev_var rfl) (sq_of hl9)) rfl (by rw [← List.map_tail]; exact flat_S _))
          · rw [if_pos hb] at hg2
            rw [hgo, hg2] at hk
            refine s_raise (n := ds.length) (ea1 (ev_is (ev_op (ev_var rfl) ev_c rv_I0) ?_)) (hk.mono (e09.trans e10))
            rw [hlen6] <;> rfl
          · rw [if_neg (by rw [hb]; decide)] at hg2
            have hl10 := e10 l _ hl9
            refine s_app hl10 (ev_var rfl) (ev_var rfl) (by rw [hvl]; omega) fun H11 e11 => ⟨ds ++ [d], vs ++ [x], Ex.mut ((e09.trans e10).trans e11) hlH, upd_same, ((hd9.ex (e10.trans e11)).snoc (hx.ex (e10.trans e11))).up (Tm.put (e11 l _ hl10)), by rw [List.length_append, hlen6]; rfl, by rw [hgo, hg2, hzr], fun hw => ?_, _, _, _, rfl⟩
            obtain ⟨ts, _, _, h3, h4, _⟩ := hmem hw
            exact ⟨ts ++ [z], by rw [h3, h4, List.map_append] <;> rfl⟩
    · rintro σ' H6 ⟨ds, vs, e6, hl6, hd6, hlen6, hgo, hren, x1, y1, z1, rfl⟩
      rw [List.length_map] at hlen6 hgo
      rw [List.drop_length, go_stop] at hgo
      have hvl : vs.length = fs.length + 1 := hd6.length.trans hlen6
      refine q_when (b := decide (wr.drop fs.length ≠ [])) (et_is (et_op (ev_lenL (ev_var rfl) (ex_l e6 hws)) (ev_lenL (ev_var rfl) (sq_of hl6)) rv_I0) ?_) (fun hb H7 e7 => ?_) fun hb H7 e7 => ?_
      · refine decide_eq_decide.mpr ?_
        rw [hvl, List.length_map, List.length_cons, Ne, List.drop_eq_nil_iff]
        omega
      · rw [if_neg (of_decide_eq_true hb)] at hgo
        rw [hgo] at hk
        refine s_raise (n := ds.length) (ea1 (ev_is (ev_lenL (ev_var rfl) (sq_of (e7 l _ hl6))) ?_)) (hk.mono (e6.trans e7))
        rw [hvl, hlen6] <;> rfl
      · rw [if_pos (by simpa using hb)] at hgo
        rw [hgo] at hk
        exact s_ret (ev_var rfl) fun H8 e8 => hk l vs H8 ((e6.trans e7).trans e8) ((e7.trans e8) l _ hl6) (hd6.ex (e7.trans e8))
end
end K9
set_option Elab.async false
set_option linter.all false
set_option maxRecDepth 100000
set_option maxHeartbeats 4000000
namespace K9
open PySem PySem.Spec PyProof.Rows L2 Evl
open PySem.PeX (PeTxt)
section
variable {P : Program} {w : World} {K : PySem.W.Frag} {mg : Str → Option Value} {base : Heap}
variable {C fI : Addr}
def SpRd (K : PySem.W.Frag) (C : Addr) (b : Bool) : Sp := fun vs H Q E => ∃ z : Mi.Tx, vs = [vS z] ∧ z.length ≤ 10000 ∧
  match Mi.read b z with
  | .ok ds => ∀ x H', Ex H H' → Dt K H' x (.tuple ds) → Q x H'
  | .error n => Rz C n H E
/-- the words, then told_by, then a tuple -/
theorem rd_pure {b : Bool} {z : Mi.Tx} {H : Hp} {Q : VK} {E : XK} (hz : z.length ≤ 10000) (hk : match Mi.read b z with
  | .ok ds => ∀ x H', Ex H H' → Dt K H' x (.tuple ds) → Q x H'
  | .error n => Rz C n H E) : SpWi C [vS z] H (fun x H1 => SpTold K C [x, .bl b] H1 (fun y H2 => (∃ p ys, [y] = [V.ref p] ∧ ((SqL K H2 p ys ∧ ∀ l, H2 l = none → Q (.ref l) (upd H2 l (.tup ys))) ∨ (SqT K H2 p ys ∧ Q (.ref p) H2)))) E) E := by
  refine ⟨z, rfl, hz, fun hb => ?_, fun hb p H1 e1 h1 => ?_⟩
  · have e : Mi.read b z = .error 0 := if_pos hb
    rw [e] at hk
    exact hk
  · have e : Mi.read b z = Mi.told b (TL.spl [32] 0 [] z) := if_neg hb
    rw [e] at hk
    refine ⟨p, _, b, rfl, sq_of h1, spl_ne _ _, fun q hq => Nat.le_trans (spl_part hq) hz, by have := spl_many (c := 32) (w := z); omega, ?_⟩
    cases ht : Mi.told b (TL.spl [32] 0 [] z) with
    | error n =>
      rw [ht] at hk
      exact hk.mono e1
    | ok ds =>
      rw [ht] at hk
      exact fun l vs H2 e2 h2 hd => ⟨l, vs, rfl, .inl ⟨sq_of h2, fun q hq => hk _ _ ((e1.trans e2).trans (Ex.new hq)) (.tup (st_of upd_same) (hd.ex (Ex.new hq)))⟩⟩
abbrev N_read_deed : List Str := ["value"]
theorem S_read_deed : FnScope N_read_deed ["value"] (defScope (top 60)) := ⟨rfl, rfl, rfl, by decide +kernel, rfl, by decide +kernel, by decide +kernel⟩
theorem B_read_deed (kV doc pm : Value) (an : Option Addr) (cdv ct : Value) (us : List Value) (hl : us.length = (["value"] : List Str).length) : bindArgs (PySem.W.fnOf "read_deed" "read_deed" (defArgs (top 60)) (defBody (top 60)) (defScope (top 60)) .none kV doc pm an cdv ct) ⟨us, []⟩ = pure ((["value"] : List Str).zip us) := match us, hl with | [_], _ => rfl
theorem c_read_deed (D : DefOk K mg "read_deed" (top 60)) (G : Gb mg) (c_words_in : CalX P w K mg base 1 "words_in" (SpWi C)) (c_told_by : CalX P w K mg base 6 "told_by" (SpTold K C)) : CalX P w K mg base 7 "read_deed" (SpRd K C true) := calX_of D S_read_deed B_read_deed (fun vs H Q E h => by obtain ⟨z, rfl, _⟩ := h; rfl) fun f cdv A outer s H vs Q E hr h => by
  refine ⟨_, (pss_one (ps_ret (pe_callTy call_tuple_of (by rfl) G.f_tuple boot_tuple (pa_cons (pe_cX c_told_by hr (by decide) (by rfl) (takes_of rfl rfl rfl rfl) (fun _ _ _ _ h => h) (pa_cons (pe_cX c_words_in hr (by decide) (by rfl) (takes_of rfl rfl rfl rfl) (fun _ _ _ _ h => h) (pa_cons (pv 0) pa_nil)) (pa_cons pe_bl pa_nil))) pa_nil)))), ?_⟩
  obtain ⟨z, rfl, hz, hk⟩ := h
  exact ⟨_, rfl, rd_pure hz hk⟩
abbrev N_read_question : List Str := ["value"]
theorem S_read_question : FnScope N_read_question ["value"] (defScope (top 61)) := ⟨rfl, rfl, rfl, by decide +kernel, rfl, by decide +kernel, by decide +kernel⟩
theorem B_read_question (kV doc pm : Value) (an : Option Addr) (cdv ct : Value) (us : List Value) (hl : us.length = (["value"] : List Str).length) : bindArgs (PySem.W.fnOf "read_question" "read_question" (defArgs (top 61)) (defBody (top 61)) (defScope (top 61)) .none kV doc pm an cdv ct) ⟨us, []⟩ = pure ((["value"] : List Str).zip us) := match us, hl with | [_], _ => rfl
theorem c_read_question (D : DefOk K mg "read_question" (top 61)) (G : Gb mg) (c_words_in : CalX P w K mg base 1 "words_in" (SpWi C)) (c_told_by : CalX P w K mg base 6 "told_by" (SpTold K C)) : CalX P w K mg base 7 "read_question" (SpRd K C false) := calX_of D S_read_question B_read_question (fun vs H Q E h => by obtain ⟨z, rfl, _⟩ := h; rfl) fun f cdv A outer s H vs Q E hr h => by
  refine ⟨_, (pss_one (ps_ret (pe_callTy call_tuple_of (by rfl) G.f_tuple boot_tuple (pa_cons (pe_cX c_told_by hr (by decide) (by rfl) (takes_of rfl rfl rfl rfl) (fun _ _ _ _ h => h) (pa_cons (pe_cX c_words_in hr (by decide) (by rfl) (takes_of rfl rfl rfl rfl) (fun _ _ _ _ h => h) (pa_cons (pv 0) pa_nil)) (pa_cons pe_bl pa_nil))) pa_nil)))), ?_⟩
  obtain ⟨z, rfl, hz, hk⟩ := h
  exact ⟨_, rfl, rd_pure hz hk⟩
/-! ### _law_read -/
def p_law_read : List V → Hp → PyData → Prop := fun vs _ d => ∃ (z : Mi.Tx) (b : Bool), vs = [vS z, .bl b] ∧ z.length ≤ 10000 ∧ d = Mi.out (Mi.read b z)
abbrev N__law_read : List Str := ["_law_text", "_law_is_deed", "error"]
theorem S__law_read : FnScope N__law_read ["_law_text", "_law_is_deed"] (defScope (top 81)) := ⟨rfl, rfl, rfl, by decide +kernel, rfl, by decide +kernel, by decide +kernel⟩
theorem B__law_read (kV doc pm : Value) (an : Option Addr) (cdv ct : Value) (us : List Value) (hl : us.length = (["_law_text", "_law_is_deed"] : List Str).length) : bindArgs (PySem.W.fnOf "_law_read" "_law_read" (defArgs (top 81)) (defBody (top 81)) (defScope (top 81)) .none kV doc pm an cdv ct) ⟨us, []⟩ = pure ((["_law_text", "_law_is_deed"] : List Str).zip us) := match us, hl with | [_, _], _ => rfl
theorem read_pure (pe : PeTxt P K mg C fI) {b : Bool} {z : Mi.Tx} {H : Hp} {Q : VK} (hz : z.length ≤ 10000) (k : ∀ x H', Ex H H' → Dt K H' x (Mi.out (Mi.read b z)) → Q x H') {D : Ends} (hD : D.rt = Q) :
    SpRd K C b [vS z] H (fun x H1 => 2 ≤ sizeLine ∧ ∀ p, H1 p = none → D.rt (.ref p) (upd H1 p (.tup [vS [116, 111, 108, 100], x]))) (WE (wAs K (.ref C) 2 (fun a cls d => tRet (tTup (tCons (tC (.str "spot")) (tCons (tAtPe C a cls d (tVar 2)) tNil)))) (fun _ _ _ _ => False) D) [some (vS z), some (.bl b), none]) := by
  refine ⟨z, rfl, hz, ?_⟩
  subst hD
  cases hr : Mi.read b z with
  | ok ds =>
    rw [hr] at k
    exact fun x H1 e1 hx => ⟨by decide, fun p hp => k _ _ (e1.trans (Ex.new hp)) (.tup (st_of upd_same) (.cons (.str _) (.cons (hx.ex (Ex.new hp)) .nil)))⟩
  | error n =>
    rw [hr] at k
    exact fun d H1 e1 hd => ⟨true, pe.te, fun _ a ha => ⟨_, rfl, rfl, rfl, d, vI n, rfl, hd, by show 2 ≤ sizeLine; decide, fun p hp => k _ _ (e1.trans (Ex.new hp)) (.tup (st_of upd_same) (.cons (.str _) (.cons (.int _) .nil)))⟩, fun q => nomatch q⟩
theorem c_law_read (D : DefOk K mg "_law_read" (top 81)) (pe : PeTxt P K mg C fI) (c_read_deed : CalX P w K mg base 7 "read_deed" (SpRd K C true)) (c_read_question : CalX P w K mg base 7 "read_question" (SpRd K C false)) : C8.Cal P w K mg base 8 "_law_read" (Spd K p_law_read) [] := cal_of D S__law_read B__law_read (fun vs H Q E h => by obtain ⟨d, ⟨z, b, rfl, _⟩, _⟩ := h; rfl) fun f cdv A outer s H vs Q E hr h => by
  refine ⟨_, (pss_one (ps_try_as (i := 2) (tb := fun W => tRet (tTup (tCons (tC (.str "told")) (tCons (tIf (tB (tVar 1)) (tCallS (SpRd K C true) (WE W) (tCons (tVar 0) tNil)) (tCallS (SpRd K C false) (WE W) (tCons (tVar 0) tNil))) tNil)))) (ts := fun a cls d => tRet (tTup (tCons (tC (.str "spot")) (tCons (tAtPe C a cls d (tVar 2)) tNil)))) (Wout := fun _ _ _ _ => False) rfl rfl S__law_read.nd rfl rfl ⟨rfl, by decide, Or.inl pe.gC⟩ takes0
    (fun W pn xe tk _ => pss_one (ps_ret (pe_tup (pa_cons pe_str (pa_cons (pe_ifExp (pt_val (pv 1)) (pe_cS c_read_deed hr (by decide) (by rfl) (fun σ => passAt tk σ) (pa_cons (pv 0) pa_nil)) (pe_cS c_read_question hr (by decide) (by rfl) (fun σ => passAt tk σ) (pa_cons (pv 0) pa_nil))) pa_nil)))))
    (fun a oe cls d pn hz hf => pss_one (ps_ret (pe_tup (pa_cons pe_str (pa_cons (pe_atPe pe hz hf (pv 2)) pa_nil))))))), ?_⟩
  obtain ⟨_, ⟨z, b, rfl, hz, rfl⟩, k⟩ := h
  refine ⟨_, rfl, b, rfl, ?_⟩
  cases b with
  | true => exact iteT ⟨_, rfl, read_pure pe hz k rfl⟩
  | false => exact iteF ⟨_, rfl, read_pure pe hz k rfl⟩
end
end K9
set_option Elab.async false
set_option linter.all false
set_option maxRecDepth 100000
set_option maxHeartbeats 4000000
namespace K9
open PySem PySem.Spec PyProof.Rows L2 Evl
/-! ### a dict of lists of forms, made on the way -/
def esL : Bool → List (Mi.Tx × List Nat)
  | true => [(Mi.wPut, [0, 2]), (Mi.wPatch, [0, 3, 3, 2]), (Mi.wDrop, [0]), (Mi.wRename, [0, 0])]
  | false => [(Mi.wThere, [1, 0]), (Mi.wLength, [1, 0]), (Mi.wCell, [1, 0, 4])]
def lk (w : Mi.Tx) : List (Mi.Tx × List Nat) → Option (List Nat)
  | [] => none
  | e :: r => if w = e.1 then some e.2 else lk w r
theorem forms_lk (b : Bool) (w : Mi.Tx) : Mi.forms b w = lk w (esL b) := by
  cases b with
  | true => exact if_pos rfl
  | false => exact if_neg (by decide)
def tStrs : List Mi.Tx → TA
  | [] => tNil
  | t :: r => tCons (tC (vS t)) (tStrs r)
def lNs (fs : List Nat) : List Mi.Tx := fs.map lN
abbrev trsL (b : Bool) : List (TE × TE) := (esL b).map fun e => (tC (vS e.1), tLst (tStrs (lNs e.2)))
/-- keys and lists, in order -/
def PsOk (H : Hp) : List (Mi.Tx × List Nat) → List (Key × V) → Prop
  | [], [] => True
  | e :: es, p :: ps => p.1 = Sum.inr (Mi.S e.1) ∧ (∃ a, p.2 = .ref a ∧ H a = some (.lst ((lNs e.2).map vS))) ∧ PsOk H es ps
  | _, _ => False
theorem PsOk.ex {H H' : Hp} (e : Ex H H') : ∀ {es : List (Mi.Tx × List Nat)} {ps : List (Key × V)}, PsOk H es ps → PsOk H' es ps
  | [], [], _ => trivial
  | _ :: _, _ :: _, ⟨h1, ⟨a, h2, h3⟩, h4⟩ => ⟨h1, ⟨a, h2, e a _ h3⟩, PsOk.ex e h4⟩
  | [], _ :: _, h => h.elim
  | _ :: _, [], h => h.elim
theorem strs_run (σ : L2.St) : ∀ (ts : List Mi.Tx) (H : Hp), EvA (tStrs ts) σ H (ts.map vS)
  | [], H => ea_nil
  | t :: r, H => ea_cons ev_c (strs_run σ r H)
theorem pairs_run (σ : L2.St) : ∀ (es : List (Mi.Tx × List Nat)) (H : Hp) (Q : List (V × V) → Hp → Prop), (∀ e ∈ es, e.2.length ≤ 100) → (∀ ps H', Ex H H' → PsOk H' es ps → Q (ps.map fun p => (kV p.1, p.2)) H') → tPairs (es.map fun e => (tC (vS e.1), tLst (tStrs (lNs e.2)))) σ H Q
  | [], H, Q, _, q => q [] H (Ex.refl H) trivial
  | e :: es, H, Q, hz, q => strs_run σ (lNs e.2) H H (Ex.refl H) _ fun H1 e1 => ⟨sz_of (by unfold lNs; rw [List.length_map, List.length_map]; have := hz e List.mem_cons_self; omega), fun p hp => pairs_run σ es _ _ (fun x hx => hz x (List.mem_cons_of_mem _ hx)) fun ps H2 e2 h2 =>
    q ((Sum.inr (Mi.S e.1), .ref p) :: ps) H2 ((e1.trans (Ex.new hp)).trans e2) ⟨rfl, ⟨p, rfl, e2 p _ upd_same⟩, h2⟩⟩
theorem val_lk {H : Hp} (w : Mi.Tx) : ∀ {es : List (Mi.Tx × List Nat)} {ps : List (Key × V)}, PsOk H es ps → match lk w es with
    | none => valV ps (Sum.inr (Mi.S w)) = none
    | some fs => ∃ a, valV ps (Sum.inr (Mi.S w)) = some (.ref a) ∧ H a = some (.lst ((lNs fs).map vS))
  | [], [], _ => rfl
  | e :: es, p :: ps, ⟨h1, ⟨a, h2, h3⟩, h4⟩ => by
    have ih := val_lk w h4
    show match (if w = e.1 then some e.2 else lk w es) with
      | none => valV (p :: ps) (Sum.inr (Mi.S w)) = none
      | some fs => ∃ a, valV (p :: ps) (Sum.inr (Mi.S w)) = some (.ref a) ∧ H a = some (.lst ((lNs fs).map vS))
    by_cases c : w = e.1
    · rw [if_pos c]
      exact ⟨a, by rw [valV_pos (by rw [h1, c]), h2], h3⟩
    · rw [if_neg c, valV_neg (by rw [h1]; intro z; exact c (SX.S_inj (Sum.inr.inj z)).symm)]
      exact ih
  | [], _ :: _, h => h.elim
  | _ :: _, [], h => h.elim
/-- keys apart: nothing is merged -/
theorem merge_apart : ∀ (ps acc : List (Key × V)), (∀ p ∈ ps, ∀ q ∈ acc, ¬ q.1 = p.1) → ps.Pairwise (fun p q => ¬ p.1 = q.1) → mergeK acc ps = acc ++ ps
  | [], acc, _, _ => (List.append_nil _).symm
  | p :: ps, acc, h, hp => by
    have e : putK acc p.1 p.2 = acc ++ [p] := by
      unfold putK
      rw [if_neg]
      rw [Bool.not_eq_true, List.any_eq_false]
      intro q hq
      simpa using h p List.mem_cons_self q hq
    have hp' := List.pairwise_cons.mp hp
    show mergeK (putK acc p.1 p.2) ps = _
    rw [e, merge_apart ps (acc ++ [p]) (fun q hq r hr => ?_) hp'.2, List.append_assoc]
    · rfl
    · rcases List.mem_append.mp hr with hr | hr
      · exact h q (List.mem_cons_of_mem _ hq) r hr
      · rw [List.mem_singleton.mp hr]
        exact hp'.1 q hq
theorem ps_keys {H : Hp} : ∀ {es : List (Mi.Tx × List Nat)} {ps : List (Key × V)}, PsOk H es ps → ps.map (·.1) = es.map (fun e => (Sum.inr (Mi.S e.1) : Key))
  | [], [], _ => rfl
  | e :: es, p :: ps, ⟨h1, _, h4⟩ => by rw [List.map_cons, List.map_cons, h1, ps_keys h4]
  | [], _ :: _, h => h.elim
  | _ :: _, [], h => h.elim
theorem ps_apart {H : Hp} {es : List (Mi.Tx × List Nat)} {ps : List (Key × V)} (h : PsOk H es ps) (hn : (es.map (·.1)).Nodup) : ps.Pairwise (fun p q => ¬ p.1 = q.1) := by
  have e := ps_keys h
  have q : (ps.map (·.1)).Pairwise (fun a b => ¬ a = b) := by
    rw [e]
    have h2 : (es.map (·.1)).Pairwise (fun a b => ¬ a = b) := hn
    rw [List.pairwise_map] at h2 ⊢
    exact h2.imp fun h z => h (SX.S_inj (Sum.inr.inj z))
  rwa [List.pairwise_map] at q
/-- the law's table at d -/
def LfD (H : Hp) (d : Addr) (b : Bool) : Prop := ∃ kvs, H d = some (.dK kvs) ∧ PsOk H (esL b) kvs
theorem LfD.ex {H H' : Hp} {d : Addr} {b : Bool} (e : Ex H H') (h : LfD H d b) : LfD H' d b := by
  obtain ⟨kvs, h1, h2⟩ := h
  exact ⟨kvs, e d _ h1, h2.ex e⟩
theorem disp_run {σ : L2.St} {H : Hp} {b : Bool} {Q : VK} (k : ∀ d H', Ex H H' → LfD H' d b → Q (.ref d) H') : tDisp (trsL b) σ H Q := fun p hp =>
  pairs_run σ (esL b) _ _ (by cases b <;> decide +kernel) fun ps H2 e2 h2 => by
    have hl : ps.length ≤ 15 := by
      have e := congrArg List.length (ps_keys h2)
      rw [List.length_map, List.length_map] at e
      rw [e]
      cases b <;> decide
    have hn : ((esL b).map (·.1)).Nodup := by cases b <;> decide +kernel
    refine ⟨e2 p _ upd_same, ps, rfl, hl, ?_⟩
    have em : mergeK [] ps = ps := merge_apart ps [] (fun _ _ _ h => by cases h) (ps_apart h2 hn)
    rw [em]
    have e3 : ∀ a o, a ≠ p → H2 a = some o → (upd H2 p (.dK ps)) a = some o := fun a o ha h => by rw [upd_ne ha]; exact h
    have hEx : Ex H (upd H2 p (.dK ps)) := Ex.mut ((Ex.new hp).trans e2) hp
    refine k p _ hEx ⟨ps, upd_same, ?_⟩
    have hp2 : H2 p = some (.dK []) := e2 p _ upd_same
    clear em hn hl k
    generalize esL b = es at h2
    revert h2
    have go : ∀ (es : List (Mi.Tx × List Nat)) (qs : List (Key × V)), PsOk H2 es qs → PsOk (upd H2 p (.dK ps)) es qs := by
      intro es
      induction es with
      | nil =>
        intro qs h
        cases qs with
        | nil => trivial
        | cons _ _ => exact h.elim
      | cons e es ih =>
        intro qs h
        cases qs with
        | nil => exact h.elim
        | cons q qs =>
          obtain ⟨h1, ⟨a, h2, h3⟩, h4⟩ := h
          exact ⟨h1, ⟨a, h2, e3 a _ (fun z => by rw [z, hp2] at h3; cases h3) h3⟩, ih qs h4⟩
    exact go es ps
abbrev N__law_read_words : List Str := ["_law_text", "_law_is_deed", "_law_forms", "_law_words", "_law_found", "_law_form", "_law_part_here"]
theorem S__law_read_words : FnScope N__law_read_words ["_law_text", "_law_is_deed"] (defScope (top 77)) := ⟨rfl, rfl, rfl, by decide +kernel, rfl, by decide +kernel, by decide +kernel⟩
theorem B__law_read_words (kV doc pm : Value) (an : Option Addr) (cdv ct : Value) (us : List Value) (hl : us.length = (["_law_text", "_law_is_deed"] : List Str).length) : bindArgs (PySem.W.fnOf "_law_read_words" "_law_read_words" (defArgs (top 77)) (defBody (top 77)) (defScope (top 77)) .none kV doc pm an cdv ct) ⟨us, []⟩ = pure ((["_law_text", "_law_is_deed"] : List Str).zip us) := match us, hl with | [_, _], _ => rfl
end K9
set_option Elab.async false
set_option linter.all false
set_option maxRecDepth 100000
set_option maxHeartbeats 400000
namespace K9
open PySem PySem.Spec PyProof.Rows L2 Evl
section
variable {P : Program} {w : World} {K : PySem.W.Frag} {mg : Str → Option Value} {base : Heap}
theorem s_asgDict {D : Ends} {σ : L2.St} {H : Hp} {trs : List (TE × TE)} {i : Nat} {b : Bool} (e : trs = trsL b) (k : ∀ d H', Ex H H' → LfD H' d b → D.nx (σ.set i (some (.ref d))) H') : tAsg (tDisp trs) (gName i) D σ H := by
  subst e
  exact disp_run fun d H' e h => k d H' e h
theorem q_asgDict {D : Ends} {σ : L2.St} {H : Hp} {trs : List (TE × TE)} {i : Nat} {tz : TS} {b : Bool} (e : trs = trsL b) (k : ∀ d H', Ex H H' → LfD H' d b → tz D (σ.set i (some (.ref d))) H') : tSeq (tAsg (tDisp trs) (gName i)) tz D σ H := s_asgDict (D := { D with nx := tz D }) e k
theorem q_mid {D : Ends} {σ : L2.St} {H : Hp} {t u : TS} (Mid : L2.St → Hp → Prop) (h : t { D with nx := Mid } σ H) (k : ∀ σ' H', Mid σ' H' → u D σ' H') : tCut t u D σ H := ⟨Mid, h, k⟩
def EAD (K : PySem.W.Frag) (ta : TA) (σ : L2.St) (H : Hp) (ds : List PyData) : Prop := ∀ H1, Ex H H1 → ∀ Q : List V → Hp → Prop, (∀ vs H2, Ex H1 H2 → DtAll K H2 vs ds → Q vs H2) → ta σ H1 Q
theorem ead_nil {σ : L2.St} {H : Hp} : EAD K tNil σ H [] := fun H1 _ _ q => q [] H1 (Ex.refl H1) .nil
theorem ead_cons {σ : L2.St} {H : Hp} {te : TE} {ta : TA} {d : PyData} {ds : List PyData} (h : ED K te σ H d) (h2 : EAD K ta σ H ds) : EAD K (tCons te ta) σ H (d :: ds) := fun H1 e Q q =>
  h H1 e _ fun x H2 e2 hx => h2 H2 (e.trans e2) _ fun vs H3 e3 hd => q _ H3 (e2.trans e3) (.cons (hx.ex e3) hd)
theorem ed_tup {σ : L2.St} {H : Hp} {ta : TA} {ds : List PyData} (h : EAD K ta σ H ds) (hl : ds.length ≤ 100000) : ED K (tTup ta) σ H (.tuple ds) := fun H1 e Q q =>
  h H1 e _ fun vs H2 e2 hd => ⟨by rw [hd.length]; exact sz_of hl, fun p hp => q _ _ (e2.trans (Ex.new hp)) (.tup (st_of upd_same) (hd.ex (Ex.new hp)))⟩
theorem ed_tupV {σ : L2.St} {H : Hp} {te : TE} {l : Addr} {vs : List V} {ds : List PyData} (h : Ev te σ H (.ref l)) (hs : SqL K H l vs) (hd : DtAll K H vs ds) : ED K (tCB (fun xs H Q => ∃ p ys, xs = [.ref p] ∧ ((SqL K H p ys ∧ ∀ l, H l = none → Q (.ref l) (upd H l (.tup ys))) ∨ (SqT K H p ys ∧ Q (.ref p) H))) (tCons te tNil)) σ H (.tuple ds) := fun H1 e Q q =>
  h H1 e _ fun H2 e2 => ⟨l, vs, rfl, .inl ⟨ex_l (e.trans e2) hs, fun p hp => q _ _ (e2.trans (Ex.new hp)) (.tup (st_of upd_same) (hd.ex ((e.trans e2).trans (Ex.new hp))))⟩⟩
theorem read_eq (b : Bool) (z w0 : Mi.Tx) (wr : List Mi.Tx) (e : TL.spl [32] 0 [] z = w0 :: wr) : Mi.read b z = if [] ∈ wr then .error 0 else match lk w0 (esL b) with
    | none => .error 0
    | some fs => Mi.go (decide (w0 = Mi.wRename)) fs wr [Mi.dS w0] := by
  unfold Mi.read
  rw [e, ← forms_lk]
  rfl
theorem q_forNtup {D : Ends} {σ : L2.St} {H : Hp} {tl : TE} {g : TG} {tu tz : TS} {a : Addr} {xs : List V} (h : ∀ Q : VK, (∀ H1, Ex H H1 → Q (.ref a) H1) → tl σ H Q) (hx : SqL K H a xs) (Pv : Nat → L2.St → Hp → Prop) (h0 : ∀ H1, Ex H H1 → Pv 0 σ H1) (hl : ∀ i σ' H', i ≤ xs.length → Pv i σ' H' → SqL K H' a xs)
    (hs : ∀ i x σ' H', xs[i]? = some x → Pv i σ' H' → g x σ' H' fun σ2 H2 => tu { D with nx := Pv (i + 1), ct := Pv (i + 1), bk := tz D } σ2 H2) (hd : ∀ σ' H', Pv xs.length σ' H' → tz D σ' H') : tSeq (tFor (iList K tl) g tu) tz D σ H :=
  h _ fun H1 e => ⟨a, rfl, ⟨xs, ex_l e hx⟩, for_list (D := { D with nx := tz D }) Pv (h0 H1 e) hl hs hd⟩
def p_law_read_words : List V → Hp → PyData → Prop := fun vs _ d => ∃ (z : Mi.Tx) (b : Bool), vs = [vS z, .bl b] ∧ z.length ≤ 10000 ∧ Asc z ∧ d = Mi.out (Mi.read b z)
/-- ('spot', n) -/
theorem ed_spot {σ : L2.St} {H : Hp} {te : TE} {n : Nat} (h : Ev te σ H (vI n)) : ED K (tTup (tCons (tC (.str "spot")) (tCons te tNil))) σ H (Mi.out (.error n)) := ed_tupA (eu_tup (ea2 ev_c h) (by show 2 ≤ 100000; decide)) (.cons (.str _) (.cons (.int _) .nil))
theorem go_cons {ren : Bool} {f : Nat} {fs : List Nat} {z : Mi.Tx} {zr : List Mi.Tx} {ds : List PyData} : Mi.go ren (f :: fs) (z :: zr) ds = match Mi.part f z with
    | none => .error ds.length
    | some d => if (ren && (ds.drop 1).any fun z => PyData.eqv z d) = true then .error ds.length else Mi.go ren fs zr (ds ++ [d]) := rfl
theorem c_law_read_words (D : DefOk K mg "_law_read_words" (top 77)) (G : Gb mg) (c__law_part : C8.Cal P w K mg base 3 "_law_part" (Spd K p_law_part) []) : C8.Cal P w K mg base 4 "_law_read_words" (Spd K p_law_read_words) [] := cal_of D S__law_read_words B__law_read_words (fun vs H Q E h => by obtain ⟨d, ⟨z, b, rfl, _⟩, _⟩ := h; rfl) fun f cdv A outer s H vs Q E hr h => by
  refine ⟨_, (pss_cons (ps_set (i := 2) S__law_read_words.nd rfl (by first | exact Or.inl rfl | exact Or.inr rfl) (pe_disp (pps_cons pe_str (pe_lst (pa_cons pe_str (pa_cons pe_str pa_nil))) (pps_cons pe_str (pe_lst (pa_cons pe_str (pa_cons pe_str (pa_cons pe_str (pa_cons pe_str pa_nil))))) (pps_cons pe_str (pe_lst (pa_cons pe_str pa_nil)) (pps_cons pe_str (pe_lst (pa_cons pe_str (pa_cons pe_str pa_nil))) pps_nil)))) rfl rfl (by simp) (by decide)))
  (pss_cut (ps_if (pt_not (pt_val (pv 1))) (pss_one (ps_set (i := 2) S__law_read_words.nd rfl (by first | exact Or.inl rfl | exact Or.inr rfl) (pe_disp (pps_cons pe_str (pe_lst (pa_cons pe_str (pa_cons pe_str pa_nil))) (pps_cons pe_str (pe_lst (pa_cons pe_str (pa_cons pe_str pa_nil))) (pps_cons pe_str (pe_lst (pa_cons pe_str (pa_cons pe_str (pa_cons pe_str pa_nil)))) pps_nil))) rfl rfl (by simp) (by decide)))) pss_nil)
  (pss_cons (ps_set (i := 3) S__law_read_words.nd rfl (by first | exact Or.inl rfl | exact Or.inr rfl) (pe_split (pv 0) pe_str))
  (pss_cons (ps_if ((pw_or (pt_cmpR op_in_seq pe_str (pe_slice sl_list (pv 3) (po_some pe_int) po_none) (by with_unfolding_all rfl)) (pw_or1 (pt_cmp (pc_dnotin (hu_of hr) (pe_ix ix_list (pv 3) pe_int (fun _ _ => rfl)) (pv 2)))))).pt (pss_one (ps_ret (pe_tup (pa_cons pe_str (pa_cons pe_int pa_nil))))) pss_nil)
  (pss_cons (ps_set (i := 4) S__law_read_words.nd rfl (by first | exact Or.inl rfl | exact Or.inr rfl) (pe_lst (pa_cons (pe_ix ix_list (pv 3) pe_int (fun _ _ => rfl)) pa_nil)))
  (pss_cons (ps_for PassesOwn.never rfl (pi_list (pe_dget (hu_of hr) (pv 2) (pe_ix ix_list (pv 3) pe_int (fun _ _ => rfl)) (fun _ _ => rfl))) (pg_name (i := 5) S__law_read_words.nd rfl (by first | exact Or.inl rfl | exact Or.inr rfl)) (pss_cons (ps_set (i := 6) S__law_read_words.nd rfl (by first | exact Or.inl rfl | exact Or.inr rfl) (pe_ifExp (pt_cmpR op_lt (pe_callB call_len_seq (by rfl) G.f_len boot_len (pa_cons (pv 4) pa_nil)) (pe_callB call_len_seq (by rfl) G.f_len boot_len (pa_cons (pv 3) pa_nil)) (nomark _)) (C8.pe_c c__law_part hr (by decide) (by rfl) (pa_cons (pv 5) (pa_cons (pe_ix ix_list (pv 3) (pe_callB call_len_seq (by rfl) G.f_len boot_len (pa_cons (pv 4) pa_nil)) (fun _ _ => rfl)) pa_nil))) pe_non))
    (pss_cons (ps_if ((pw_or (pt_cmpR op_isN (pv 6) pe_non (nomark _)) (pw_or1 ((pw_and (pt_cmpR op_eq (pe_ix ix_list (pv 3) pe_int (fun _ _ => rfl)) pe_str (nomark _)) (pw_and (pt_cmpR op_eq (pe_callB call_len_seq (by rfl) G.f_len boot_len (pa_cons (pv 4) pa_nil)) pe_int (nomark _)) (pw_and1 (pt_cmpR op_eq (pv 6) (pe_ix ix_list (pv 4) pe_int (fun _ _ => rfl)) (nomark _)))))).pt))).pt (pss_one (ps_ret (pe_tup (pa_cons pe_str (pa_cons (pe_callB call_len_seq (by rfl) G.f_len boot_len (pa_cons (pv 4) pa_nil)) pa_nil))))) pss_nil)
    (pss_one (ps_expr (pe_bm PySem.F.plainAttrs_list PySem.F.slot_list_append PySem.F.type_list_append mt_append (pv 4) (pa_cons (pv 6) pa_nil)))))))
  (pss_one (ps_ret (pe_ifExp (pt_cmpR op_eq (pe_callB call_len_seq (by rfl) G.f_len boot_len (pa_cons (pv 3) pa_nil)) (pe_callB call_len_seq (by rfl) G.f_len boot_len (pa_cons (pv 4) pa_nil)) (nomark _)) (pe_tup (pa_cons pe_str (pa_cons (pe_callTy call_tuple_of (by rfl) G.f_tuple boot_tuple (pa_cons (pv 4) pa_nil)) pa_nil))) (pe_tup (pa_cons pe_str (pa_cons (pe_callB call_len_seq (by rfl) G.f_len boot_len (pa_cons (pv 4) pa_nil)) pa_nil)))))))))))), ?_⟩
  obtain ⟨_, ⟨z, b, rfl, hz, ha, rfl⟩, k⟩ := h
  obtain ⟨w0, wr, hsp⟩ : ∃ w0 wr, TL.spl [32] 0 [] z = w0 :: wr := by
    cases e : TL.spl [32] 0 [] z with
    | nil => exact absurd e (spl_ne _ _)
    | cons a r => exact ⟨a, r, rfl⟩
  have hrd := read_eq b z w0 wr hsp
  have hpl : ∀ q ∈ w0 :: wr, q.length ≤ 10000 ∧ Asc q := fun q hq => by
    rw [← hsp] at hq
    exact ⟨Nat.le_trans (spl_part hq) hz, ha.spl hq⟩
  have hpn : (w0 :: wr).length ≤ 10001 := by
    rw [← hsp]
    have := spl_many (c := 32) (w := z)
    omega
  rw [hrd] at k
  clear hrd
  -- the forms
  refine q_asgDict (b := true) rfl fun d0 H1 e1 hd0 => ?_
  refine q_mid (fun σ' H' => ∃ d, Ex H H' ∧ LfD H' d b ∧ σ' = [some (vS z), some (.bl b), some (.ref d), none, none, none, none]) ?_ ?_
  · refine s_when (b := !b) (et_not (et_B (ev_var rfl))) (fun hb H2 e2 => ?_) fun hb H2 e2 => ?_
    · have hb' : b = false := by simpa using hb
      subst hb'
      exact s_asgDict (b := false) rfl fun d H3 e3 hd => ⟨d, (e1.trans e2).trans e3, hd, rfl⟩
    · have hb' : b = true := by simpa using hb
      subst hb'
      exact ⟨d0, e1.trans e2, hd0.ex e2, rfl⟩
  rintro σ' H4 ⟨d, e4, hd4, rfl⟩
  refine q_asgL (xs := (w0 :: wr).map vS) (el_eq (el_split (c := 32) (ev_var rfl) ev_c (by decide) (by omega)) (by rw [hsp])) fun pw H5 _ e5 h5 => ?_
  have e05 := e4.trans e5
  have hd5 := hd4.ex e5
  have hwv : ∀ {σ : L2.St} {H6 : Hp} {te : TE}, Ex H5 H6 → Ev te σ H6 (.ref pw) → Ev (tOp (rIxL K) te (tC (.int 0))) σ H6 (vS w0) := fun {σ H6 te} e h => ev_op h ev_c (rv_ixL (sq_of (e pw _ h5)) (atI_nat (j := 0) rfl))
  have hdv : ∀ {σ : L2.St} {H6 : Hp} {td ty : TE}, Ex H5 H6 → Ev td σ H6 (.ref d) → Ev ty σ H6 (vS w0) → Ev (tDNotIn ty td) σ H6 (.bl (lk w0 (esL b)).isNone) := fun {σ H6 td ty} e h1 h2 H7 e7 Q q => h2 H7 e7 _ fun H8 e8 => h1 H8 (e7.trans e8) _ fun H9 e9 => by
    obtain ⟨kvs, q1, q2⟩ := hd5.ex (((e.trans e7).trans e8).trans e9)
    refine ⟨d, _, rfl, DGet.k (k := Sum.inr (Mi.S w0)) q1, ?_⟩
    have q3 := val_lk w0 q2
    have q4 : (!(valV kvs (Sum.inr (Mi.S w0))).isSome) = (lk w0 (esL b)).isNone := by
      cases hlk : lk w0 (esL b) with
      | none =>
        rw [hlk] at q3
        have q5 : valV kvs (Sum.inr (Mi.S w0)) = none := q3
        rw [q5] <;> rfl
      | some fs =>
        rw [hlk] at q3
        obtain ⟨a, q5, _⟩ := q3
        rw [q5] <;> rfl
    rw [q4]
    exact q H9 (e8.trans e9)
  refine q_when (b := decide (([] : Mi.Tx) ∈ wr) || (lk w0 (esL b)).isNone) (et_or (et_is (et_test (ev_inL (x := vS []) ev_c (el_tailV (ev_var rfl) (sq_of h5)) rfl (by rw [← List.map_tail]; exact flat_S _))) (by rw [← List.map_tail, inV_S] <;> rfl)) fun _ => et_B (hdv (Ex.refl H5) (ev_var rfl) (hwv (Ex.refl H5) (ev_var rfl)))) (fun hb H6 e6 => ?_) fun hb H6 e6 => ?_
  · have e : (if [] ∈ wr then (.error 0 : Except Nat (List PyData)) else match lk w0 (esL b) with
        | none => .error 0
        | some fs => Mi.go (decide (w0 = Mi.wRename)) fs wr [Mi.dS w0]) = .error 0 := by
      by_cases c : [] ∈ wr
      · rw [if_pos c]
      · rw [if_neg c]
        rw [decide_eq_false c, Bool.false_or] at hb
        rw [Option.isNone_iff_eq_none.mp hb]
    rw [e] at k
    exact s_retD (ed_spot (n := 0) ev_c) fun x H7 e7 hx => k x H7 ((e05.trans e6).trans e7) hx
  · rw [Bool.or_eq_false_iff] at hb
    rw [if_neg (of_decide_eq_false hb.1)] at k
    obtain ⟨fs, hfs⟩ : ∃ fs, lk w0 (esL b) = some fs := by
      cases h : lk w0 (esL b) with
      | none => rw [h] at hb; exact absurd hb.2 (by decide)
      | some fs => exact ⟨fs, rfl⟩
    rw [hfs] at k
    change ∀ (x : V) (H' : Hp), Ex H H' → Dt K H' x (Mi.out (Mi.go (decide (w0 = Mi.wRename)) fs wr [Mi.dS w0])) → Q x H' at k
    have hfm : Mi.forms b w0 = some fs := (forms_lk b w0).trans hfs
    obtain ⟨hfs4, hf4⟩ := forms_small hfm
    have e06 := e05.trans e6
    have h6 := e6 pw _ h5
    refine q_asgL (el_lst (ea1 (hwv e6 (ev_var rfl))) (by show 1 ≤ 100000; decide)) fun l H7 hl7 e7 h7 => ?_
    have hlH6 : H6 l = none := hl7
    have e07 := e06.trans e7
    obtain ⟨kvs, q1, q2⟩ := hd5.ex (e6.trans e7)
    have q3 := val_lk w0 q2
    rw [hfs] at q3
    obtain ⟨af, q4, q5⟩ := q3
    have q5' : H6 af = some (.lst ((lNs fs).map vS)) := by
      obtain ⟨kvs', q1', q2'⟩ := hd5.ex e6
      have q3' := val_lk w0 q2'
      rw [hfs] at q3'
      obtain ⟨af', q4', q5'⟩ := q3'
      have e1 := e7 d _ q1'
      rw [q1] at e1
      cases e1
      rw [q4] at q4'
      cases q4'
      exact q5'
    refine q_forNtup (a := af) (xs := (lNs fs).map vS) (fun Q2 q => (ev_var (σ := [some (vS z), some (.bl b), some (.ref d), some (.ref pw), some (.ref l), none, none]) (i := 2) rfl : Ev (tVar 2) _ H7 (.ref d)) H7 (Ex.refl H7) _ fun H8 e8 => hwv ((e6.trans e7).trans e8) (ev_var (σ := [some (vS z), some (.bl b), some (.ref d), some (.ref pw), some (.ref l), none, none]) (i := 3) rfl) H8 (Ex.refl H8) _ fun H9 e9 => ⟨d, .ref af, rfl, by
      rw [← q4]
      exact DGet.k (k := Sum.inr (Mi.S w0)) ((e8.trans e9) d _ q1), q H9 (e8.trans e9)⟩) (sq_of q5) (fun i σ' H' => ∃ ds vs, Ex H6 H' ∧ H' l = some (.lst vs) ∧ DtAll K H' vs ds ∧ (ds.length = i + 1 ∧ i ≤ wr.length) ∧ Mi.go (decide (w0 = Mi.wRename)) fs wr [Mi.dS w0] = Mi.go (decide (w0 = Mi.wRename)) (fs.drop i) (wr.drop i) ds ∧
      (w0 = Mi.wRename → ∃ ts : List Mi.Tx, ds = ts.map Mi.dS) ∧ ∃ x y, σ' = [some (vS z), some (.bl b), some (.ref d), some (.ref pw), some (.ref l), x, y]) (fun H8 e8 => ⟨[Mi.dS w0], [vS w0], e7.trans e8, e8 l _ h7, .cons (.str _) .nil, ⟨rfl, Nat.zero_le _⟩, rfl, fun _ => ⟨[w0], rfl⟩, _, _, rfl⟩) (fun i σ' H' _ ⟨_, _, e8, _⟩ => sq_of (e8 af _ q5')) ?_ ?_
    · rintro i y0 σ' H8 hy0 ⟨ds, vs, e8, hl8, hd8, ⟨hlen8, hiw⟩, hgo, hren, x1, y1, rfl⟩
      have hi : i < fs.length := by
        have := (List.getElem?_eq_some_iff.mp hy0).1
        rwa [List.length_map, lNs, List.length_map] at this
      obtain ⟨f, hf⟩ : ∃ f, fs[i]? = some f := ⟨fs[i], by simp [hi]⟩
      have ey : y0 = vS (lN f) := by
        rw [List.getElem?_map, lNs, List.getElem?_map, hf] at hy0
        exact (Option.some.inj hy0).symm
      subst ey
      have hfm4 := hf4 f (List.mem_of_getElem? hf)
      have e08 := e06.trans e8
      have hpw8 := e8 pw _ h6
      have hvl : vs.length = i + 1 := hd8.length.trans hlen8
      have hdrop : fs.drop i = f :: fs.drop (i + 1) := by
        have h2 := List.drop_eq_getElem_cons hi
        rw [h2]
        congr 1
        have := List.getElem?_eq_getElem hi
        rw [hf] at this
        exact (Option.some.inj this).symm
      rw [hdrop] at hgo
      show tSeq (tAsg _ _) _ _ [some (vS z), some (.bl b), some (.ref d), some (.ref pw), some (.ref l), some (vS (lN f)), y1] H8
      have wv : ∀ {σ : L2.St} {H9 : Hp} {te : TE}, Ex H8 H9 → Ev te σ H9 (.ref pw) → Ev (tOp (rIxL K) te (tC (.int 0))) σ H9 (vS w0) := fun {σ H9 te} e h => hwv ((e6.trans e8).trans e) h
      cases hwr : wr.drop i with
      | nil =>
        have hle : wr.length ≤ i := List.drop_eq_nil_iff.mp hwr
        rw [hwr] at hgo
        change Mi.go (decide (w0 = Mi.wRename)) fs wr [Mi.dS w0] = .error ds.length at hgo
        rw [hgo] at k
        refine q_asg (v := .non) (ev_if (b := false) (et_is (et_op (ev_lenL (ev_var rfl) (sq_of hl8)) (ev_lenL (ev_var rfl) (sq_of hpw8)) rv_I0) (decide_eq_false (by rw [List.length_map, List.length_cons, hvl]; omega))) (fun h => nomatch h) fun _ => ev_c) fun H9 e9 => ?_
        refine s_when (b := true) (et_or (a := true) (b := false) (et_op (ev_var rfl) ev_c rv_isN) fun h => nomatch h) (fun _ H10 e10 => ?_) fun h => nomatch h
        refine s_retD (ed_spot (n := ds.length) (ev_is (ev_lenL (ev_var rfl) (sq_of ((e9.trans e10) l _ hl8))) ?_)) fun x H11 e11 hx => k x H11 (((e08.trans e9).trans e10).trans e11) hx
        rw [hvl, hlen8] <;> rfl
      | cons z' zr =>
        have hlt : i < wr.length := by
          rcases Nat.lt_or_ge i wr.length with h | h
          · exact h
          · rw [List.drop_eq_nil_iff.mpr h] at hwr
            cases hwr
        have hz' : wr[i]? = some z' := by
          have h2 := List.drop_eq_getElem_cons hlt
          rw [hwr] at h2
          rw [List.getElem?_eq_getElem hlt, ← (List.cons.inj h2).1]
        have hzr : wr.drop (i + 1) = zr := by
          have h2 := List.drop_eq_getElem_cons hlt
          rw [hwr] at h2
          exact (List.cons.inj h2).2.symm
        obtain ⟨hzl, hza⟩ := hpl z' (List.mem_cons_of_mem _ (List.mem_of_getElem? hz'))
        rw [hwr, go_cons] at hgo
        have hws1 : Ev (tOp (rIxL K) (tVar 3) (tCB (fun xs H Q => ∃ p ys, xs = [.ref p] ∧ (SqL K H p ys ∨ SqT K H p ys) ∧ Q (.int ys.length) H) (tCons (tVar 4) tNil))) [some (vS z), some (.bl b), some (.ref d), some (.ref pw), some (.ref l), some (vS (lN f)), y1] H8 (vS z') :=
          ev_op (ev_var rfl) (ev_lenL (ev_var rfl) (sq_of hl8)) (rv_ixL (sq_of hpw8) (show atI ((w0 :: wr).map vS) ((vs.length : Nat) : Int) = some (vS z') from atI_nat (by rw [hvl, List.map_cons, List.getElem?_cons_succ, List.getElem?_map, hz'] <;> rfl)))
        refine q_asgD (K := K) (d := oD (Mi.part f z')) (ed_if (b := true) (et_is (et_op (ev_lenL (ev_var rfl) (sq_of hl8)) (ev_lenL (ev_var rfl) (sq_of hpw8)) rv_I0) (decide_eq_true (by rw [List.length_map, List.length_cons, hvl]; omega))) (fun _ => ed_cal (ea2 (ev_var rfl) hws1) fun _ _ => ⟨f, z', rfl, hfm4, hzl, hza, rfl⟩) fun h => nomatch h) fun x H9 e9 hx => ?_
        have e09 := e08.trans e9
        have hl9 := e9 l _ hl8
        cases hp : Mi.part f z' with
        | none =>
          rw [hp] at hgo hx
          change Mi.go (decide (w0 = Mi.wRename)) fs wr [Mi.dS w0] = .error ds.length at hgo
          rw [hgo] at k
          have h0 := Dt.non_inv hx
          subst h0
          refine s_when (b := true) (et_or (a := true) (b := false) (et_op (ev_var rfl) ev_c rv_isN) fun h => nomatch h) (fun _ H10 e10 => ?_) fun h => nomatch h
          refine s_retD (ed_spot (n := ds.length) (ev_is (ev_lenL (ev_var rfl) (sq_of (e10 l _ hl9))) ?_)) fun x H11 e11 hx => k x H11 ((e09.trans e10).trans e11) hx
          rw [hvl, hlen8] <;> rfl
        | some d' =>
          rw [hp] at hgo hx
          change Mi.go (decide (w0 = Mi.wRename)) fs wr [Mi.dS w0] = (if (decide (w0 = Mi.wRename) && (ds.drop 1).any fun z => PyData.eqv z d') = true then Except.error ds.length else Mi.go (decide (w0 = Mi.wRename)) (fs.drop (i + 1)) zr (ds ++ [d'])) at hgo
          change Dt K H9 x d' at hx
          have hxn := dt_ne hx (part_some hp)
          have hd9 := hd8.ex e9
          have hmem : w0 = Mi.wRename → ∃ ts : List Mi.Tx, x = vS z' ∧ vs = ts.map vS ∧ ds = ts.map Mi.dS ∧ d' = Mi.dS z' ∧ ((ds.drop 1).any fun z => PyData.eqv z d') = (decide (ts.length = 2) && decide (ts[1]? = some z')) := fun hw => by
            obtain ⟨ts, rfl⟩ := hren hw
            have h1 : f = 0 := forms_ren (by rw [← hw]; exact hfm) f (List.mem_of_getElem? hf)
            subst h1
            have h2 := part_ren hp
            subst h2
            refine ⟨ts, Dt.str_inv hx, dtAll_strs hd9, rfl, rfl, ?_⟩
            rw [List.drop_one, ← List.map_tail, any_strs]
            have hb2 : fs = [0, 0] := by
              rw [hw] at hfm
              cases b with
              | true =>
                have e : Mi.forms true Mi.wRename = some [0, 0] := by decide +kernel
                rw [e] at hfm
                exact (Option.some.inj hfm).symm
              | false =>
                have e : Mi.forms false Mi.wRename = none := by decide +kernel
                rw [e] at hfm
                cases hfm
            rw [hb2] at hi
            rw [List.length_map] at hlen8
            have hi2 : i < 2 := hi
            match ts, hlen8 with
            | [a], _ => simp
            | [a, c], _ => simp [eq_comm]
            | [], h => simp at h
            | a :: c :: e :: r, h => exact absurd h (by simp; omega)
          refine q_when (b := (decide (w0 = Mi.wRename) && (ds.drop 1).any fun z => PyData.eqv z d')) (et_is (et_or (a := false) (b := (decide (w0 = Mi.wRename) && (ds.drop 1).any fun z => PyData.eqv z d')) (et_is (et_op (ev_var rfl) ev_c rv_isN) hxn) fun _ => et_and (et_op (wv e9 (ev_var rfl)) ev_c (rv_eqS (b := Mi.wRename))) fun hw => ?_) (Bool.false_or _)) (fun hb H10 e10 => ?_) fun hb H10 e10 => ?_
          · obtain ⟨ts, rfl, rfl, _, _, h5'⟩ := hmem (of_decide_eq_true hw)
            rw [h5']
            refine et_and (et_is (et_op (ev_lenL (ev_var rfl) (sq_of hl9)) ev_c (rv_eq rfl)) ?_) fun h2 => ?_
            · rw [dec_int, List.length_map, Bool.eq_iff_iff]
              simp
              omega
            · have h2' := of_decide_eq_true h2
              match ts, h2' with
              | [a, c], _ =>
                refine et_is (et_op (ev_var rfl) (ev_op (ev_var rfl) ev_c (rv_ixL (sq_of hl9) (v := vS c) rfl)) rv_eqS) ?_
                simp [eq_comm]
          · rw [if_pos hb] at hgo
            rw [hgo] at k
            refine s_retD (ed_spot (n := ds.length) (ev_is (ev_lenL (ev_var rfl) (sq_of (e10 l _ hl9))) ?_)) fun x H11 e11 hx => k x H11 ((e09.trans e10).trans e11) hx
            rw [hvl, hlen8] <;> rfl
          · rw [if_neg (by rw [hb]; decide)] at hgo
            have hl10 := e10 l _ hl9
            refine s_app hl10 (ev_var rfl) (ev_var rfl) (by rw [hvl]; omega) fun H11 e11 => ⟨ds ++ [d'], vs ++ [x], Ex.mut (((e8.trans e9).trans e10).trans e11) hlH6, upd_same, ((hd9.ex (e10.trans e11)).snoc (hx.ex (e10.trans e11))).up (Tm.put (e11 l _ hl10)), ⟨by rw [List.length_append, hlen8]; rfl, hlt⟩, by rw [hgo, hzr], fun hw => ?_, _, _, rfl⟩
            obtain ⟨ts, _, _, h3, h4, _⟩ := hmem hw
            exact ⟨ts ++ [z'], by rw [h3, h4, List.map_append] <;> rfl⟩
    · rintro σ' H8 ⟨ds, vs, e8, hl8, hd8, ⟨hlen8, hiw⟩, hgo, hren, x1, y1, rfl⟩
      rw [List.length_map, lNs, List.length_map] at hlen8 hgo hiw
      rw [List.drop_length, go_stop] at hgo
      have hvl : vs.length = fs.length + 1 := hd8.length.trans hlen8
      have e08 := e06.trans e8
      rw [hgo] at k
      refine s_retD (ed_if (b := decide (wr.drop fs.length = [])) (et_is (et_op (ev_lenL (ev_var rfl) (sq_of (e8 pw _ h6))) (ev_lenL (ev_var rfl) (sq_of hl8)) (rv_eq rfl)) ?_) (fun hb => ?_) fun hb => ?_) fun x H9 e9 hx => k x H9 (e08.trans e9) hx
      · rw [dec_int, List.length_map, List.length_cons, hvl, Bool.eq_iff_iff, decide_eq_true_iff, beq_iff_eq, List.drop_eq_nil_iff]
        omega
      · rw [if_pos (of_decide_eq_true hb)]
        exact ed_tup (ead_cons (ed_of ev_c (.str _)) (ead_cons (ed_tupV (ev_var rfl) (sq_of hl8) hd8) ead_nil)) (by show 2 ≤ 100000; decide)
      · rw [if_neg (of_decide_eq_false hb)]
        refine ed_spot (ev_is (ev_lenL (ev_var rfl) (sq_of hl8)) ?_)
        rw [hvl, hlen8] <;> rfl
end
end K9
set_option Elab.async false
set_option linter.all false
set_option maxRecDepth 100000
set_option maxHeartbeats 1000000
namespace K9
open PySem PySem.Spec PyProof.Rows L2 Evl
/-! ### a power of a great number -/
def CPw (i j : Int) : Prop := 0 ≤ j ∧ j ≤ 1000 ∧ i.natAbs < 2 ^ 1000
theorem op_powB {X : Cx} : OpR X (binaryOp .Pow) (rI CPw fun i j => .int (i ^ j.toNat)) := opI fun i j _ _ _ _ _ hc q => by
  obtain ⟨h1, h2, h3⟩ := hc
  have h4 := intBits_le h3
  refine pow_int h1 ?_ q
  have h5 : (Builtin.Int.intBits i : Int) ≤ 1000 := by omega
  have h6 : (Builtin.Int.intBits i : Int) * j ≤ 1000 * 1000 := Int.mul_le_mul h5 h2 h1 (by decide)
  exact Int.le_trans h6 (by decide)
/-! ### the vat: a list of three ints that the draws change -/
def Vt (va : Addr) (H : Hp) : Prop := ∃ a b c : Int, H va = some (.lst [.int a, .int b, .int c])
def Vx (va : Addr) (H H' : Hp) : Prop := (∀ x o, x ≠ va → H x = some o → H' x = some o) ∧ Vt va H'
section
variable {K : PySem.W.Frag} {va : Addr} {H H' H1 H2 : Hp}
theorem Vt.ex (v : Vt va H) (e : Ex H H') : Vt va H' := by
  obtain ⟨a, b, c, h⟩ := v
  exact ⟨a, b, c, e _ _ h⟩
theorem Vx.of_ex (v : Vt va H) (e : Ex H H') : Vx va H H' := ⟨fun x o _ h => e x o h, v.ex e⟩
theorem Vx.trans (a : Vx va H H1) (b : Vx va H1 H2) : Vx va H H2 := ⟨fun x o hx h => b.1 x o hx (a.1 x o hx h), b.2⟩
theorem Vx.put {xs : List V} {a b c : Int} (h : H va = some (.lst xs)) : Vx va H (upd H va (.lst [.int a, .int b, .int c])) := ⟨fun x o hx h => by rw [upd_ne hx]; exact h, a, b, c, upd_same⟩
theorem Vx.tm (v : Vt va H) (e : Vx va H H') : Tm K H H' := fun a xs q => by
  obtain ⟨x, y, z, hv⟩ := v
  rcases q with (q | ⟨o, q⟩) | q
  · exact .inl (.inl (e.1 a _ (fun z => by rw [z, hv] at q; cases q) q))
  · exact .inl (.inr ⟨o, e.1 a _ (fun z => by rw [z, hv] at q; cases q) q⟩)
  · exact .inr q
theorem Vx.dt {d : PyData} {x : V} (v : Vt va H) (e : Vx va H H') (h : Dt K H x d) : Dt K H' x d := h.up (e.tm v)
theorem Vx.list {a : Addr} {xs : List V} (e : Vx va H H') (ha : a ≠ va) (h : SqL K H a xs) : SqL K H' a xs := by
  rcases h with (h | ⟨o, h⟩) | h
  · exact .inl (.inl (e.1 a _ ha h))
  · exact .inl (.inr ⟨o, e.1 a _ ha h⟩)
  · exact .inr h
end
/-! ### what evaluates while the vat may change -/
section
variable {K : PySem.W.Frag} {va : Addr} {σ : L2.St} {H H' : Hp} {te tf : TE} {ta : TA} {v : V} {D : Ends} {tz : TS}
def DV (va : Addr) (te : TE) (σ : L2.St) (H : Hp) (P : V → Hp → Prop) : Prop := ∀ Q : VK, (∀ x H', Vx va H H' → P x H' → Q x H') → te σ H Q
def DA (va : Addr) (ta : TA) (σ : L2.St) (H : Hp) (P : List V → Hp → Prop) : Prop := ∀ Q : List V → Hp → Prop, (∀ vs H', Vx va H H' → P vs H' → Q vs H') → ta σ H Q
theorem dv_ev (hv : Vt va H) (h : Ev te σ H v) : DV va te σ H fun x _ => x = v := fun Q q => h H (Ex.refl H) Q fun H1 e => q v H1 (.of_ex hv e) rfl
theorem dv_ed {d : PyData} (hv : Vt va H) (h : ED K te σ H d) : DV va te σ H fun x H' => Dt K H' x d := fun Q q => h H (Ex.refl H) Q fun x H1 e hx => q x H1 (.of_ex hv e) hx
theorem da_ev {vs : List V} (hv : Vt va H) (h : EvA ta σ H vs) : DA va ta σ H fun xs _ => xs = vs := fun Q q => h H (Ex.refl H) Q fun H1 e => q vs H1 (.of_ex hv e) rfl
theorem dv_imp {P R : V → Hp → Prop} (h : DV va te σ H P) (k : ∀ x H', Vx va H H' → P x H' → R x H') : DV va te σ H R := fun Q q => h Q fun x H' e p => q x H' e (k x H' e p)
theorem da_nil (hv : Vt va H) : DA va tNil σ H fun xs _ => xs = [] := fun Q q => q [] H (.of_ex hv (Ex.refl H)) rfl
/-- items told by a word of values -/
theorem da_cons {p : V → Prop} {n : Nat} (h : DV va te σ H fun x _ => p x) (h2 : ∀ H', Vx va H H' → DA va ta σ H' fun xs _ => (∀ x ∈ xs, p x) ∧ xs.length = n) : DA va (tCons te ta) σ H fun xs _ => (∀ x ∈ xs, p x) ∧ xs.length = n + 1 := fun Q q =>
  h _ fun x H1 e1 hx => h2 H1 e1 _ fun xs H2 e2 hs => q (x :: xs) H2 (e1.trans e2) ⟨fun y hy => by
    rcases List.mem_cons.mp hy with rfl | hy
    · exact hx
    · exact hs.1 y hy, congrArg Nat.succ hs.2⟩
theorem da_nil' {p : V → Prop} (hv : Vt va H) : DA va tNil σ H fun xs _ => (∀ x ∈ xs, p x) ∧ xs.length = 0 := fun Q q => q [] H (.of_ex hv (Ex.refl H)) ⟨fun x h => (nomatch h), rfl⟩
theorem s_asgV {i : Nat} {P : V → Hp → Prop} (h : DV va te σ H P) (k : ∀ x H', Vx va H H' → P x H' → D.nx (σ.set i (some x)) H') : tAsg te (gName i) D σ H := h _ k
theorem q_asgV {i : Nat} {P : V → Hp → Prop} (h : DV va te σ H P) (k : ∀ x H', Vx va H H' → P x H' → tz D (σ.set i (some x)) H') : tSeq (tAsg te (gName i)) tz D σ H := h _ k
theorem s_retV {P : V → Hp → Prop} (h : DV va te σ H P) (k : ∀ x H', Vx va H H' → P x H' → D.rt x H') : tRet te D σ H := h _ k
theorem q_parV {i j : Nat} {P R : V → Hp → Prop} (h : DV va te σ H P) (h2 : ∀ x H1, Vx va H H1 → P x H1 → DV va tf σ H1 R) (k : ∀ x y H1 H', Vx va H H1 → P x H1 → Vx va H1 H' → R y H' → tz D ((σ.set i (some x)).set j (some y)) H') : tSeq (tPar i j (tCons te (tCons tf tNil))) tz D σ H :=
  h _ fun x H1 e1 hx => h2 x H1 e1 hx _ fun y H2 e2 hy => ⟨x, y, rfl, k x y H1 H2 e1 hx e2 hy⟩
/-! ### _law_draw, _law_pick -/
def SpDraw : Sp := fun vs H Q _ => ∃ (va : Addr) (n : Nat), vs = [.ref va, vI n] ∧ Vt va H ∧ 0 < n ∧ n < 1073741824 ∧ ∀ (r : Nat) H', Vx va H H' → r < n → Q (vI r) H'
def SpPick (K : PySem.W.Frag) : Sp := fun vs H Q _ => ∃ va, Vt va H ∧
  ((∃ a xs, vs = [.ref va, .ref a] ∧ a ≠ va ∧ SqL K H a xs ∧ xs ≠ [] ∧ xs.length ≤ 1000 ∧ ∀ x H', Vx va H H' → x ∈ xs → Q x H') ∨
    ∃ z : Mi.Tx, vs = [.ref va, vS z] ∧ z ≠ [] ∧ z.length ≤ 1000 ∧ ∀ c H', Vx va H H' → c ∈ z → Q (vS [c]) H')
theorem dv_draw {n : Nat} {E : XK} (hv : Vt va H) (h : EvA ta σ H [.ref va, vI n]) (h0 : 0 < n) (h1 : n < 1073741824) : DV va (tCall SpDraw [] E ta) σ H fun x _ => ∃ r : Nat, x = vI r ∧ r < n := fun Q q =>
  h H (Ex.refl H) _ fun H1 e1 => ⟨va, n, rfl, hv.ex e1, h0, h1, fun r H' e hr => q _ H' ((Vx.of_ex hv e1).trans e) ⟨r, rfl, hr⟩⟩
/-- one of a new list of known items -/
theorem dv_pickL {xs : List V} {E : XK} {tv : TE} (hv : Vt va H) (hva : ∀ H1, Ex H H1 → Ev tv σ H1 (.ref va)) (h : EvL te σ H xs) (h0 : xs ≠ []) (h1 : xs.length ≤ 1000) : DV va (tCall (SpPick K) [] E (tCons tv (tCons te tNil))) σ H fun x _ => x ∈ xs := fun Q q =>
  hva H (Ex.refl H) H (Ex.refl H) _ fun H1 e1 => h H1 e1 _ fun p H2 hp e2 h2 => ⟨va, (hv.ex e1).ex e2, .inl ⟨p, xs, rfl, (fun z => by
    obtain ⟨a, b, c, hh⟩ := hv.ex e1
    rw [z, hh] at hp
    cases hp), sq_of h2, h0, h1, fun x H' e hx => q x H' ((Vx.of_ex hv (e1.trans e2)).trans e) hx⟩⟩
/-- one of a new list whose items are drawn -/
theorem dv_pickA {p : V → Prop} {n : Nat} {E : XK} {tv : TE} (hv : Vt va H) (hva : Ev tv σ H (.ref va)) (h : ∀ H', Vx va H H' → DA va ta σ H' fun xs _ => (∀ x ∈ xs, p x) ∧ xs.length = n + 1) (hn : n < 1000) : DV va (tCall (SpPick K) [] E (tCons tv (tCons (tLst ta) tNil))) σ H fun x _ => p x := fun Q q =>
  hva H (Ex.refl H) _ fun H1 e1 => h H1 (.of_ex hv e1) _ fun xs H2 e2 hs => ⟨by rw [hs.2]; exact sz_of (by omega), fun l hl => by
    have e3 : Vx va H2 (upd H2 l (.lst xs)) := .of_ex e2.2 (Ex.new hl)
    refine ⟨va, e3.2, .inl ⟨l, xs, rfl, fun z => ?_, sq_of upd_same, ?_, by rw [hs.2]; omega, fun x H' e hx => q x H' ((((Vx.of_ex hv e1).trans e2).trans e3).trans e) (hs.1 x hx)⟩⟩
    · obtain ⟨a, b, c, hh⟩ := e2.2
      rw [z, hh] at hl
      cases hl
    · intro z
      rw [z] at hs
      have := hs.2
      cases this⟩
theorem dv_pickS {z : Mi.Tx} {E : XK} (hv : Vt va H) (h : EvA ta σ H [.ref va, vS z]) (h0 : z ≠ []) (h1 : z.length ≤ 1000) : DV va (tCall (SpPick K) [] E ta) σ H fun x _ => ∃ c, x = vS [c] ∧ c ∈ z := fun Q q =>
  h H (Ex.refl H) _ fun H1 e1 => ⟨va, hv.ex e1, .inr ⟨z, rfl, h0, h1, fun c H' e hc => q _ H' ((Vx.of_ex hv e1).trans e) ⟨c, rfl, hc⟩⟩⟩
end
section
variable {P : Program} {w : World} {K : PySem.W.Frag} {mg : Str → Option Value} {base : Heap}
/-! ### _law_vat -/
theorem ev_int {σ : L2.St} {H : Hp} {te : TE} {i : Int} (h : Ev te σ H (.int i)) : Ev (tCB (fun xs H Q => (∃ i, xs = [.int i] ∧ Q (.int i) H) ∨ ∃ k, xs = [.bl k] ∧ Q (.int (if k then 1 else 0)) H) (tCons te tNil)) σ H (.int i) := ev_cb (ea1 h) fun _ _ _ q => .inl ⟨i, rfl, q⟩
theorem ev_intB {σ : L2.St} {H : Hp} {te : TE} {b : Bool} (h : Ev te σ H (.bl b)) : Ev (tCB (fun xs H Q => (∃ i, xs = [.int i] ∧ Q (.int i) H) ∨ ∃ k, xs = [.bl k] ∧ Q (.int (if k then 1 else 0)) H) (tCons te tNil)) σ H (.int (if b then 1 else 0)) := ev_cb (ea1 h) fun _ _ _ q => .inr ⟨b, rfl, q⟩
def SpVat (K : PySem.W.Frag) : Sp := fun vs H Q _ => ∃ (s : Addr) (ns : List Int) (i : Nat), vs = [.ref s, vI i] ∧ SqL K H s (ns.map V.int) ∧ i ≤ 2 ∧ ∀ p H', H p = none → Ex H H' → Vt p H' → Q (.ref p) H'
abbrev N__law_vat : List Str := ["_law_script", "_law_spot", "_law_cell", "_law_great"]
theorem S__law_vat : FnScope N__law_vat ["_law_script", "_law_spot"] (defScope (top 63)) := ⟨rfl, rfl, rfl, by decide +kernel, rfl, by decide +kernel, by decide +kernel⟩
theorem B__law_vat (kV doc pm : Value) (an : Option Addr) (cdv ct : Value) (us : List Value) (hl : us.length = (["_law_script", "_law_spot"] : List Str).length) : bindArgs (PySem.W.fnOf "_law_vat" "_law_vat" (defArgs (top 63)) (defBody (top 63)) (defScope (top 63)) .none kV doc pm an cdv ct) ⟨us, []⟩ = pure ((["_law_script", "_law_spot"] : List Str).zip us) := match us, hl with | [_, _], _ => rfl
theorem pow_pos57 : (0 : Int) < ((10 : Int) ^ (57 : Int).toNat) ^ (6 : Int).toNat := by decide +kernel
theorem c_law_vat (D : DefOk K mg "_law_vat" (top 63)) (G : Gb mg) : C8.Cal P w K mg base 1 "_law_vat" (SpVat K) [] := cal_of D S__law_vat B__law_vat (fun vs H Q E h => by obtain ⟨s, ns, i, rfl, _⟩ := h; rfl) fun f cdv A outer s H vs Q E hr h => by
  refine ⟨_, (pss_cons (ps_set (i := 2) S__law_vat.nd rfl (by first | exact Or.inl rfl | exact Or.inr rfl) (pe_ifExp (pt_cmpR op_lt (pv 1) (pe_callB call_len_seq (by rfl) G.f_len boot_len (pa_cons (pv 0) pa_nil)) (nomark _)) (pe_callTy call_int1 (by rfl) G.f_int boot_int (pa_cons (pe_ix ix_list (pv 0) (pv 1) (fun _ _ => rfl)) pa_nil)) (pe_op op_add (pe_op op_mul pe_int (pv 1)) pe_int)))
  (pss_cons (ps_set (i := 3) S__law_vat.nd rfl (by first | exact Or.inl rfl | exact Or.inr rfl) (pe_op op_mod (pe_callTy call_int1 (by rfl) G.f_int boot_int (pa_cons (pe_callB call_abs (by rfl) G.f_abs boot_abs (pa_cons (pv 2) pa_nil)) pa_nil)) (pe_op op_powB (pe_op op_pow pe_int pe_int) pe_int)))
  (pss_one (ps_ret (pe_lst (pa_cons (pe_callB (call_max2 rfl) (by rfl) G.f_max boot_max (pa_cons pe_int (pa_cons (pe_op op_sub (pv 3) (pe_op op_powB pe_int pe_int)) pa_nil))) (pa_cons (pe_op op_add (pe_op op_add (pe_op op_add (pe_op op_mul (pe_op op_mod (pe_callTy call_int1 (by rfl) G.f_int boot_int (pa_cons (pv 3) pa_nil)) pe_int) pe_int) (pe_op op_mul pe_int (pv 1))) (pe_op op_mul pe_int (pe_callTy call_int1 (by rfl) G.f_int boot_int (pa_cons (pe_cmpR op_lt (pv 2) pe_int (nomark _)) pa_nil)))) pe_int) (pa_cons pe_int pa_nil)))))))), ?_⟩
  obtain ⟨s, ns, i, rfl, hs, hi, k⟩ := h
  obtain ⟨c, hc⟩ : ∃ c : Int, Ev (tIf (tTest (tOp (rI0 fun i j => .bl (decide (i < j))) (tVar 1) (tCB (fun xs H Q => ∃ p ys, xs = [.ref p] ∧ (SqL K H p ys ∨ SqT K H p ys) ∧ Q (.int ys.length) H) (tCons (tVar 0) tNil)))) (tCB (fun xs H Q => (∃ i, xs = [.int i] ∧ Q (.int i) H) ∨ ∃ k, xs = [.bl k] ∧ Q (.int (if k then 1 else 0)) H) (tCons (tOp (rIxL K) (tVar 0) (tVar 1)) tNil)) (tOp (rI0 fun i j => .int (i + j)) (tOp (rI CMul fun i j => .int (i * j)) (tC (.int 347)) (tVar 1)) (tC (.int 113)))) (start N__law_vat [.ref s, vI i]) H (.int c) := by
    by_cases hl : i < ns.length
    · exact ⟨ns[i], ev_if (b := true) (et_is (et_op (ev_var rfl) (ev_lenL (ev_var rfl) hs) rv_I0) (decide_eq_true (by rw [List.length_map]; omega))) (fun _ => ev_int (ev_op (ev_var rfl) (ev_var rfl) (rv_ixL hs (atI_nat (by rw [List.getElem?_map, List.getElem?_eq_getElem hl] <;> rfl))))) fun h => nomatch h⟩
    · exact ⟨347 * (i : Int) + 113, ev_if (b := false) (et_is (et_op (ev_var rfl) (ev_lenL (ev_var rfl) hs) rv_I0) (decide_eq_false (by rw [List.length_map]; omega))) (fun h => nomatch h) fun _ => ev_op (ev_op ev_c (ev_var rfl) (rv_I (.inl ⟨by decide, by decide⟩))) ev_c rv_I0⟩
  refine q_asg hc fun H1 e1 => ?_
  refine q_asg (ev_op (ev_int (ev_cb (ea1 (ev_var rfl)) fun H2 Q2 e2 q => ⟨c, rfl, q⟩)) (ev_op (ev_op ev_c ev_c (rv_I ⟨by decide, by decide, by decide⟩)) ev_c (rv_I ⟨by decide, by decide, by decide +kernel⟩)) (rv_I (show (0 : Int) < _ from pow_pos57))) fun H2 e2 => ?_
  generalize (if c < 0 then -c else c) % ((10 : Int) ^ (57 : Int).toNat) ^ (6 : Int).toNat = g
  have hm : 0 ≤ g % 2147483477 ∧ g % 2147483477 < 2147483477 := ⟨Int.emod_nonneg _ (by decide), Int.emod_lt_of_pos _ (by decide)⟩
  refine s_retL (el_lst (ea3 (ev_cb (ea2 ev_c (ev_op (ev_var rfl) (ev_op ev_c ev_c (rv_I ⟨by decide, by decide, by decide⟩)) rv_I0)) fun H3 Q3 e3 q => ⟨_, _, rfl, q⟩) (ev_op (ev_op (ev_op (ev_op (ev_op (ev_int (ev_var rfl)) ev_c (rv_I (show (0 : Int) < 2147483477 by decide))) ev_c (rv_I (.inl ⟨by omega, by omega⟩))) (ev_op ev_c (ev_var rfl) (rv_I (.inl ⟨by decide, by decide⟩))) rv_I0) (ev_op ev_c (ev_intB (ev_op (ev_var rfl) ev_c rv_I0)) (rv_I (.inl ⟨by decide, by decide⟩))) rv_I0) ev_c rv_I0) ev_c) (by show 3 ≤ 100000; decide)) fun p H3 hp e3 h3 => k p H3 (fresh_back (e1.trans e2) hp) ((e1.trans e2).trans e3) ⟨_, _, _, h3⟩
/-! ### _law_draw -/
abbrev N__law_draw : List Str := ["_law_vat_here", "_law_total", "_law_one", "_law_two", "_law_found"]
theorem S__law_draw : FnScope N__law_draw ["_law_vat_here", "_law_total"] (defScope (top 64)) := ⟨rfl, rfl, rfl, by decide +kernel, rfl, by decide +kernel, by decide +kernel⟩
theorem B__law_draw (kV doc pm : Value) (an : Option Addr) (cdv ct : Value) (us : List Value) (hl : us.length = (["_law_vat_here", "_law_total"] : List Str).length) : bindArgs (PySem.W.fnOf "_law_draw" "_law_draw" (defArgs (top 64)) (defBody (top 64)) (defScope (top 64)) .none kV doc pm an cdv ct) ⟨us, []⟩ = pure ((["_law_vat_here", "_law_total"] : List Str).zip us) := match us, hl with | [_, _], _ => rfl
theorem c_law_draw (D : DefOk K mg "_law_draw" (top 64)) (G : Gb mg) : C8.Cal P w K mg base 1 "_law_draw" SpDraw [] := cal_of D S__law_draw B__law_draw (fun vs H Q E h => by obtain ⟨s, n, rfl, _⟩ := h; rfl) fun f cdv A outer s H vs Q E hr h => by
  refine ⟨_, (pss_cons (ps_if (pt_cmpR op_gt (pe_ix ix_list (pv 0) pe_int (fun _ _ => rfl)) pe_int (nomark _)) (pss_cons (ps_set (i := 4) S__law_draw.nd rfl (by first | exact Or.inl rfl | exact Or.inr rfl) (pe_op op_mod (pe_callTy call_int1 (by rfl) G.f_int boot_int (pa_cons (pe_ix ix_list (pv 0) pe_int (fun _ _ => rfl)) pa_nil)) (pv 1)))
    (pss_cons (ps_asg (pe_op op_fdiv (pe_ix ix_list (pv 0) pe_int (fun _ _ => rfl)) (pv 1)) (pg_sub (pv 0) pe_int set_list))
    (pss_one (ps_ret (pv 4))))) pss_nil)
  (pss_cons (ps_asg (pe_op op_add (pe_ix ix_list (pv 0) pe_int (fun _ _ => rfl)) pe_int) (pg_sub (pv 0) pe_int set_list))
  (pss_cons (ps_set (i := 2) S__law_draw.nd rfl (by first | exact Or.inl rfl | exact Or.inr rfl) (pe_op op_mod (pe_callTy call_int1 (by rfl) G.f_int boot_int (pa_cons (pe_op op_add (pe_ix ix_list (pv 0) pe_int (fun _ _ => rfl)) (pe_op op_mul pe_int (pe_ix ix_list (pv 0) pe_int (fun _ _ => rfl)))) pa_nil)) pe_int))
  (pss_cons (ps_set (i := 3) S__law_draw.nd rfl (by first | exact Or.inl rfl | exact Or.inr rfl) (pe_op op_add (pe_op op_mul (pe_op op_mod (pe_callTy call_int1 (by rfl) G.f_int boot_int (pa_cons (pe_op op_add (pe_op op_mul (pv 2) (pv 2)) (pe_op op_mul pe_int (pe_ix ix_list (pv 0) pe_int (fun _ _ => rfl)))) pa_nil)) pe_int) pe_int) (pv 2)))
  (pss_one (ps_ret (pe_op op_mod (pe_callTy call_int1 (by rfl) G.f_int boot_int (pa_cons (pe_op op_fdiv (pv 3) pe_int) pa_nil)) (pv 1)))))))), ?_⟩
  obtain ⟨va, n, rfl, ⟨a, b, c, hv⟩, hn, hn2, k⟩ := h
  have fin : ∀ {x : Int} {H1 : Hp}, Vx va H H1 → Q (.int (x % (n : Int))) H1 := fun {x H1} e => by
    have h1 : 0 ≤ x % (n : Int) := Int.emod_nonneg _ (by omega)
    have h2 : x % (n : Int) < (n : Int) := Int.emod_lt_of_pos _ (by omega)
    obtain ⟨r, hr⟩ : ∃ r : Nat, x % (n : Int) = (r : Int) := ⟨(x % (n : Int)).toNat, by omega⟩
    rw [hr]
    exact k r H1 e (by omega)
  have vv : ∀ {xs : List V} {j : Nat} {v : V} {H1 : Hp} {σ : L2.St} {te : TE}, Ev te σ H1 (.ref va) → H1 va = some (.lst xs) → xs[j]? = some v → Ev (tOp (rIxL K) te (tC (.int (j : Int)))) σ H1 v := fun h h1 h2 => ev_op h ev_c (rv_ixL (sq_of h1) (atI_nat h2))
  have ev0 : Vx va H H := .of_ex ⟨a, b, c, hv⟩ (Ex.refl H)
  refine q_when (et_op (vv (j := 0) (ev_var rfl) hv rfl) ev_c rv_I0) (fun _ H1 e1 => ?_) fun _ H1 e1 => ?_
  · have hv1 := e1 va _ hv
    refine q_asg (ev_op (ev_int (vv (j := 0) (ev_var rfl) hv1 rfl)) (ev_var rfl) (rv_I (show (0 : Int) < (n : Int) by omega))) fun H2 e2 => ?_
    have hv2 := e2 va _ hv1
    refine q_setL (j := 0) hv2 (ev_op (vv (j := 0) (ev_var rfl) hv2 rfl) (ev_var rfl) (rv_I (show CDiv a (n : Int) from ⟨by omega, by omega⟩))) (ev_var rfl) ev_c (by show 0 < 3; decide) fun H3 e3 => ?_
    exact s_ret (ev_var rfl) fun H4 e4 => fin ((((ev0.trans (.of_ex ev0.2 ((e1.trans e2).trans e3))).trans (.put (e3 va _ hv2))).trans (.of_ex ⟨_, _, _, upd_same⟩ e4)))
  · have hv1 := e1 va _ hv
    refine q_setL (j := 2) hv1 (ev_op (vv (j := 2) (ev_var rfl) hv1 rfl) ev_c rv_I0) (ev_var rfl) ev_c (by show 2 < 3; decide) fun H2 e2 => ?_
    have e02 : Vx va H (upd H2 va (.lst [.int a, .int b, .int (c + 1)])) := (ev0.trans (.of_ex ev0.2 (e1.trans e2))).trans (.put (e2 va _ hv1))
    have hv3 : (upd H2 va (.lst [.int a, .int b, .int (c + 1)])) va = some (.lst [.int a, .int b, .int (c + 1)]) := upd_same
    show tSeq _ _ _ _ (upd H2 va (.lst [.int a, .int b, .int (c + 1)]))
    revert e02 hv3
    generalize upd H2 va (.lst [.int a, .int b, .int (c + 1)]) = H3
    intro e03 hv3
    refine q_asg (ev_op (ev_int (ev_op (vv (j := 1) (ev_var rfl) hv3 rfl) (ev_op ev_c (vv (j := 2) (ev_var rfl) hv3 rfl) (rv_I (.inl ⟨by decide, by decide⟩))) rv_I0)) ev_c (rv_I (show (0 : Int) < 2305843009213693951 by decide))) fun H4 e4 => ?_
    generalize ho : (b + 9699713 * (c + 1)) % 2305843009213693951 = o
    have ho1 : 0 ≤ o ∧ o < 2305843009213693951 := by
      rw [← ho]
      exact ⟨Int.emod_nonneg _ (by decide), Int.emod_lt_of_pos _ (by decide)⟩
    have hv4 := e4 va _ hv3
    have hm : ∀ x : Int, 0 ≤ x % 2305843009213693921 ∧ x % 2305843009213693921 < 2305843009213693921 := fun x => ⟨Int.emod_nonneg _ (by decide), Int.emod_lt_of_pos _ (by decide)⟩
    refine q_asg (ev_op (ev_op (ev_op (ev_int (ev_op (ev_op (ev_var rfl) (ev_var rfl) (rv_I (.inl ⟨by omega, by omega⟩))) (ev_op ev_c (vv (j := 2) (ev_var rfl) hv4 rfl) (rv_I (.inl ⟨by decide, by decide⟩))) rv_I0)) ev_c (rv_I (show (0 : Int) < 2305843009213693921 by decide))) ev_c (rv_I (.inl ⟨by have := (hm (o * o + 253 * (c + 1))).1; omega, by have := (hm (o * o + 253 * (c + 1))).2; omega⟩))) (ev_var rfl) rv_I0) fun H5 e5 => ?_
    exact s_ret (ev_op (ev_int (ev_op (ev_var rfl) ev_c (rv_I (show CDiv _ 65537 from ⟨by decide, by decide⟩)))) (ev_var rfl) (rv_I (show (0 : Int) < (n : Int) by omega))) fun H6 e6 => fin (e03.trans (.of_ex e03.2 ((e4.trans e5).trans e6)))
/-! ### _law_pick -/
abbrev N__law_pick : List Str := ["_law_vat_here", "_law_items"]
theorem S__law_pick : FnScope N__law_pick ["_law_vat_here", "_law_items"] (defScope (top 65)) := ⟨rfl, rfl, rfl, by decide +kernel, rfl, by decide +kernel, by decide +kernel⟩
theorem B__law_pick (kV doc pm : Value) (an : Option Addr) (cdv ct : Value) (us : List Value) (hl : us.length = (["_law_vat_here", "_law_items"] : List Str).length) : bindArgs (PySem.W.fnOf "_law_pick" "_law_pick" (defArgs (top 65)) (defBody (top 65)) (defScope (top 65)) .none kV doc pm an cdv ct) ⟨us, []⟩ = pure ((["_law_vat_here", "_law_items"] : List Str).zip us) := match us, hl with | [_, _], _ => rfl
theorem c_law_pick (D : DefOk K mg "_law_pick" (top 65)) (G : Gb mg) (c__law_draw : C8.Cal P w K mg base 1 "_law_draw" SpDraw []) : C8.Cal P w K mg base 2 "_law_pick" (SpPick K) [] := cal_of D S__law_pick B__law_pick (fun vs H Q E h => by obtain ⟨va, _, ⟨a, xs, rfl, _⟩ | ⟨z, rfl, _⟩⟩ := h <;> rfl) fun f cdv A outer s H vs Q E hr h => by
  refine ⟨_, (pss_one (ps_ret (pe_ix (ix_list.or ix_str) (pv 1) (C8.pe_c c__law_draw hr (by decide) (by rfl) (pa_cons (pv 0) (pa_cons (pe_callB (call_len_seq.or call_len_str) (by rfl) G.f_len boot_len (pa_cons (pv 1) pa_nil)) pa_nil))) (fun _ _ => rfl)))), ?_⟩
  obtain ⟨va, hv, ⟨a, xs, rfl, hne, hs, h0, hl, k⟩ | ⟨z, rfl, h0, hl, k⟩⟩ := h
  · have hp : 0 < xs.length := List.length_pos_iff.mpr h0
    refine ⟨_, rfl, dv_draw (n := xs.length) hv (ea2 (ev_var rfl) (ev_cb (ea1 (ev_var rfl)) fun H1 Q1 e q => .inl ⟨a, xs, rfl, .inl (ex_l e hs), q⟩)) hp (by omega) _ fun x H' e ⟨r, ex, hr⟩ => ?_⟩
    subst ex
    exact .inl ⟨a, xs, (r : Int), xs[r], rfl, rfl, e.list hne hs, atI_nat (List.getElem?_eq_getElem hr), k _ H' e (List.getElem_mem hr)⟩
  · have hp : 0 < z.length := List.length_pos_iff.mpr h0
    refine ⟨_, rfl, dv_draw (n := z.length) hv (ea2 (ev_var rfl) (ev_cb (ea1 (ev_var rfl)) fun H1 Q1 e q => .inr ⟨Mi.S z, rfl, by rw [SX.S_len]; exact sz_of (by omega), by rw [SX.S_len]; exact q⟩)) hp (by omega) _ fun x H' e ⟨r, ex, hr⟩ => ?_⟩
    subst ex
    exact .inr ⟨Mi.S z, (r : Int), z[r], rfl, rfl, by rw [SX.S_len]; exact sz_of (by omega), atI_nat (List.getElem?_eq_getElem hr), k _ H' e (List.getElem_mem hr)⟩
end
end K9
set_option Elab.async false
set_option linter.all false
set_option maxRecDepth 100000
set_option maxHeartbeats 1000000
namespace K9
open PySem PySem.Spec PyProof.Rows L2 Evl
section
variable {P : Program} {w : World} {K : PySem.W.Frag} {mg : Str → Option Value} {base : Heap}
/-! ### _law_cells -/
theorem dv_drawI {va : Addr} {σ : L2.St} {H : Hp} {n : Nat} {te : TE} {E : XK} (hv : Vt va H) (h : Ev te σ H (.ref va)) (h0 : 0 < n) (h1 : n < 1073741824) : DV va (tCall SpDraw [] E (tCons te (tCons (tC (.int (n : Int))) tNil))) σ H fun x _ => ∃ r : Nat, x = vI r ∧ r < n := dv_draw hv (ea2 h ev_c) h0 h1
def SpCells (K : PySem.W.Frag) : Sp := fun vs H Q _ => ∃ (va : Addr) (m : Nat), vs = [.ref va, vI m] ∧ Vt va H ∧ m ≤ 48 ∧ ∀ cs x H', Vx va H H' → Mi.cellsOk cs → Dt K H' x (Mi.dC cs) → Q x H'
abbrev N__law_cells : List Str := ["_law_vat_here", "_law_many", "_law_turn"]
theorem S__law_cells : FnScope N__law_cells ["_law_vat_here", "_law_many"] (defScope (top 66)) := ⟨rfl, rfl, rfl, by decide +kernel, rfl, by decide +kernel, by decide +kernel⟩
theorem B__law_cells (kV doc pm : Value) (an : Option Addr) (cdv ct : Value) (us : List Value) (hl : us.length = (["_law_vat_here", "_law_many"] : List Str).length) : bindArgs (PySem.W.fnOf "_law_cells" "_law_cells" (defArgs (top 66)) (defBody (top 66)) (defScope (top 66)) .none kV doc pm an cdv ct) ⟨us, []⟩ = pure ((["_law_vat_here", "_law_many"] : List Str).zip us) := match us, hl with | [_, _], _ => rfl
abbrev cellV (x : V) : Prop := ∃ c : Nat, x = vI c ∧ c ≤ 996
theorem c_law_cells (D : DefOk K mg "_law_cells" (top 66)) (G : Gb mg) (c__law_draw : C8.Cal P w K mg base 1 "_law_draw" SpDraw []) (c__law_pick : C8.Cal P w K mg base 2 "_law_pick" (SpPick K) []) : C8.Cal P w K mg base 3 "_law_cells" (SpCells K) [] := cal_of D S__law_cells B__law_cells (fun vs H Q E h => by obtain ⟨va, m, rfl, _⟩ := h; rfl) fun f cdv A outer s H vs Q E hr h => by
  refine ⟨_, (pss_one (ps_ret (pe_callTy call_tuple_of (by rfl) G.f_tuple boot_tuple (pa_cons (pe_lc (own := [("_law_turn", 2)]) (g := gName 2) (tt := tYes) rfl S__law_cells.nd (pi_range1 (by rfl) G.f_range (pa_cons (pv 1) pa_nil)) (blkOk_by (N := N__law_cells) (sc := defScope (top 66)) (by decide +kernel)) (fun _ _ _ _ _ => pg_name (i := 2) S__law_cells.nd rfl (Or.inl rfl)) (fun _ _ _ _ _ => pts_nil) (fun _ _ _ _ _ => (C8.pe_c c__law_pick hr (by decide) (by rfl) (pa_cons (pv 0) (pa_cons (pe_lst (pa_cons pe_int (pa_cons pe_int (pa_cons pe_int (pa_cons pe_int (pa_cons (C8.pe_c c__law_draw hr (by decide) (by rfl) (pa_cons (pv 0) (pa_cons pe_int pa_nil))) pa_nil)))))) pa_nil))))) pa_nil)))), ?_⟩
  obtain ⟨va, m, rfl, hv, hm, k⟩ := h
  refine ⟨_, rfl, (m : Int), rfl, by omega, by omega, fun Dl hD => lc_it walk_range (fun i H' => ∃ cs : List Nat, Vx va H H' ∧ H' Dl = some (.lst (cs.map vI)) ∧ cs.length = i ∧ ∀ c ∈ cs, c ≤ 996) ⟨[], .of_ex hv (Ex.new hD), upd_same, rfl, fun c hc => by cases hc⟩ (fun _ _ _ _ => trivial) ?_ ?_⟩
  · rintro i x H1 H2 hi ⟨cs, e1, h1, hl, hc⟩ ⟨rfl, rfl⟩
    have hne : Dl ≠ va := fun z => by
      obtain ⟨a, b, c, hh⟩ := hv
      rw [z, hh] at hD
      cases hD
    refine ⟨rfl, et_yes H2 (Ex.refl H2) _ fun H2' e0 => iteT ?_⟩
    have e1' : Vx va H H2' := e1.trans (.of_ex e1.2 e0)
    have h1' := e0 Dl _ h1
    refine dv_pickA (p := cellV) (n := 4) e1'.2 (ev_var rfl) (fun H3 e3 => ?_) (by decide) _ fun y H3 e3 hy => ?_
    · exact da_cons (dv_imp (dv_ev e3.2 ev_c) fun _ _ _ h => ⟨0, h, by decide⟩) fun H4 e4 => da_cons (dv_imp (dv_ev e4.2 ev_c) fun _ _ _ h => ⟨1, h, by decide⟩) fun H5 e5 => da_cons (dv_imp (dv_ev e5.2 ev_c) fun _ _ _ h => ⟨2, h, by decide⟩) fun H6 e6 => da_cons (dv_imp (dv_ev e6.2 ev_c) fun _ _ _ h => ⟨996, h, by decide⟩) fun H7 e7 =>
        da_cons (dv_imp (dv_drawI (n := 997) e7.2 (ev_var rfl) (by decide) (by decide)) fun _ _ _ ⟨r, h1, h2⟩ => ⟨r, h1, by omega⟩) fun H8 e8 => da_nil' e8.2
    · obtain ⟨c, rfl, hc1⟩ := hy
      have h3 := e3.1 Dl _ hne h1'
      have e03 := e1'.trans e3
      refine ⟨_, h3, sz_lt (by rw [List.length_map]; omega), cs ++ [c], ⟨fun x o hx h => by rw [upd_ne (fun z => by rw [z, hD] at h; cases h)]; exact e03.1 x o hx h, ?_⟩, by rw [upd_same, List.map_append] <;> rfl, by rw [List.length_append, hl] <;> rfl, fun d hd => ?_⟩
      · obtain ⟨a, b, c, hh⟩ := e03.2
        exact ⟨a, b, c, by rw [upd_ne (Ne.symm hne)]; exact hh⟩
      · rcases List.mem_append.mp hd with hd | hd
        · exact hc d hd
        · rw [List.mem_singleton.mp hd]
          exact hc1
  · rintro H1 ⟨cs, e1, h1, hl, hc⟩
    exact ⟨Dl, _, rfl, .inl ⟨sq_of h1, fun p hp => k cs _ _ (e1.trans (.of_ex e1.2 (Ex.new hp))) ⟨by rw [hl]; omega, hc⟩ (dt_cells (st_of upd_same))⟩⟩
/-! ### _law_any_deed, _law_any_question -/
abbrev nmV (x : V) : Prop := ∃ n : Mi.Tx, x = vS n ∧ Mi.isNm n = true
/-- one of some words -/
theorem dv_word {va : Addr} {σ : L2.St} {H : Hp} {tv : TE} {ta : TA} {E : XK} (ws : List Mi.Tx) (hv : Vt va H) (hva : ∀ H1, Ex H H1 → Ev tv σ H1 (.ref va)) (e : ta = tStrs ws) (h0 : ws ≠ []) (h1 : ws.length ≤ 1000) : DV va (tCall (SpPick K) [] E (tCons tv (tCons (tLst ta) tNil))) σ H fun x _ => ∃ t, x = vS t ∧ t ∈ ws := by
  subst e
  refine dv_imp (dv_pickL hv hva (el_lst (strs_run σ ws H) (by rw [List.length_map]; omega)) (by simpa using h0) (by rw [List.length_map]; exact h1)) fun x _ _ hx => ?_
  obtain ⟨t, h2, h3⟩ := List.mem_map.mp hx
  exact ⟨t, h3.symm, h2⟩
def SpAnyDeed (K : PySem.W.Frag) : Sp := fun vs H Q _ => ∃ va : Addr, vs = [.ref va] ∧ Vt va H ∧ ∀ (d : Mi.Dd) x H', Vx va H H' → d.ok → Dt K H' x (.tuple d.py) → Q x H'
def SpAnyQn (K : PySem.W.Frag) : Sp := fun vs H Q _ => ∃ va : Addr, vs = [.ref va] ∧ Vt va H ∧ ∀ (q : Mi.Qn) x H', Vx va H H' → q.ok → Dt K H' x (.tuple q.py) → Q x H'
abbrev N__law_any_deed : List Str := ["_law_vat_here", "_law_cells_here", "_law_name", "_law_word"]
theorem S__law_any_deed : FnScope N__law_any_deed ["_law_vat_here"] (defScope (top 79)) := ⟨rfl, rfl, rfl, by decide +kernel, rfl, by decide +kernel, by decide +kernel⟩
theorem B__law_any_deed (kV doc pm : Value) (an : Option Addr) (cdv ct : Value) (us : List Value) (hl : us.length = (["_law_vat_here"] : List Str).length) : bindArgs (PySem.W.fnOf "_law_any_deed" "_law_any_deed" (defArgs (top 79)) (defBody (top 79)) (defScope (top 79)) .none kV doc pm an cdv ct) ⟨us, []⟩ = pure ((["_law_vat_here"] : List Str).zip us) := match us, hl with | [_], _ => rfl
abbrev N__law_any_question : List Str := ["_law_vat_here", "_law_save", "_law_word", "_law_name"]
theorem S__law_any_question : FnScope N__law_any_question ["_law_vat_here"] (defScope (top 80)) := ⟨rfl, rfl, rfl, by decide +kernel, rfl, by decide +kernel, by decide +kernel⟩
theorem B__law_any_question (kV doc pm : Value) (an : Option Addr) (cdv ct : Value) (us : List Value) (hl : us.length = (["_law_vat_here"] : List Str).length) : bindArgs (PySem.W.fnOf "_law_any_question" "_law_any_question" (defArgs (top 80)) (defBody (top 80)) (defScope (top 80)) .none kV doc pm an cdv ct) ⟨us, []⟩ = pure ((["_law_vat_here"] : List Str).zip us) := match us, hl with | [_], _ => rfl
theorem ints_ok {va : Addr} {σ : L2.St} {H : Hp} {tv : TE} {E : XK} {n : Nat} (ls : List Nat) (hv : Vt va H) (hva : ∀ H1, Ev tv σ H1 (.ref va)) (hl : ∀ c ∈ ls, c ≤ n) (h0 : 0 < n + 1) (h1 : n + 1 < 1073741824) (hz : ls.length < 900) :
    DV va (tCall (SpPick K) [] E (tCons tv (tCons (tLst (ls.foldr (fun c t => tCons (tC (vI c)) t) (tCons (tCall SpDraw [] E (tCons tv (tCons (tC (.int ((n + 1 : Nat) : Int))) tNil))) tNil))) tNil))) σ H fun x _ => ∃ c : Nat, x = vI c ∧ c ≤ n := by
  have go : ∀ (ls : List Nat), (∀ c ∈ ls, c ≤ n) → ∀ H', Vt va H' → DA va (ls.foldr (fun c t => tCons (tC (vI c)) t) (tCons (tCall SpDraw [] E (tCons tv (tCons (tC (.int ((n + 1 : Nat) : Int))) tNil))) tNil)) σ H' fun xs _ => (∀ x ∈ xs, ∃ c : Nat, x = vI c ∧ c ≤ n) ∧ xs.length = ls.length + 1 := by
    intro ls
    induction ls with
    | nil => exact fun _ H' hv' => da_cons (dv_imp (dv_drawI (n := n + 1) hv' (hva H') h0 h1) fun _ _ _ ⟨r, h2, h3⟩ => ⟨r, h2, by omega⟩) fun H2 e2 => da_nil' e2.2
    | cons c ls ih => exact fun hl H' hv' => da_cons (dv_imp (dv_ev hv' ev_c) fun _ _ _ h => ⟨c, h, hl c List.mem_cons_self⟩) fun H2 e2 => ih (fun d hd => hl d (List.mem_cons_of_mem _ hd)) H2 e2.2
  exact dv_pickA (n := ls.length) hv (hva H) (fun H' e => go ls hl H' e.2) (by omega)
theorem c_law_any_deed (D : DefOk K mg "_law_any_deed" (top 79)) (G : Gb mg) (c__law_draw : C8.Cal P w K mg base 1 "_law_draw" SpDraw []) (c__law_pick : C8.Cal P w K mg base 2 "_law_pick" (SpPick K) []) (c__law_cells : C8.Cal P w K mg base 3 "_law_cells" (SpCells K) []) : C8.Cal P w K mg base 4 "_law_any_deed" (SpAnyDeed K) [] := cal_of D S__law_any_deed B__law_any_deed (fun vs H Q E h => by obtain ⟨va, rfl, _⟩ := h; rfl) fun f cdv A outer s H vs Q E hr h => by
  refine ⟨_, (pss_cons (ps_par (i := 2) (j := 3) rfl S__law_any_deed.nd rfl rfl (by decide) rfl rfl (pa_cons (C8.pe_c c__law_pick hr (by decide) (by rfl) (pa_cons (pv 0) (pa_cons (pe_lst (pa_cons pe_str (pa_cons pe_str (pa_cons pe_str (pa_cons pe_str pa_nil))))) pa_nil))) (pa_cons (C8.pe_c c__law_pick hr (by decide) (by rfl) (pa_cons (pv 0) (pa_cons (pe_lst (pa_cons pe_str (pa_cons pe_str (pa_cons pe_str (pa_cons pe_str pa_nil))))) pa_nil))) pa_nil)) (by first | rfl | decide +kernel))
  (pss_cons (ps_set (i := 1) S__law_any_deed.nd rfl (by first | exact Or.inl rfl | exact Or.inr rfl) (C8.pe_c c__law_cells hr (by decide) (by rfl) (pa_cons (pv 0) (pa_cons (C8.pe_c c__law_pick hr (by decide) (by rfl) (pa_cons (pv 0) (pa_cons (pe_lst (pa_cons pe_int (pa_cons pe_int (pa_cons pe_int (pa_cons pe_int pa_nil))))) pa_nil))) pa_nil))))
  (pss_cons (ps_if (pt_cmpR op_eq (pv 3) pe_str (nomark _)) (pss_one (ps_ret (pe_tup (pa_cons (pv 3) (pa_cons (pv 2) (pa_cons (pv 1) pa_nil)))))) pss_nil)
  (pss_cons (ps_if (pt_cmpR op_eq (pv 3) pe_str (nomark _)) (pss_one (ps_ret (pe_tup (pa_cons (pv 3) (pa_cons (pv 2) (pa_cons (C8.pe_c c__law_pick hr (by decide) (by rfl) (pa_cons (pv 0) (pa_cons (pe_lst (pa_cons pe_int (pa_cons pe_int (pa_cons pe_int (pa_cons (C8.pe_c c__law_draw hr (by decide) (by rfl) (pa_cons (pv 0) (pa_cons pe_int pa_nil))) pa_nil))))) pa_nil))) (pa_cons (C8.pe_c c__law_pick hr (by decide) (by rfl) (pa_cons (pv 0) (pa_cons (pe_lst (pa_cons pe_int (pa_cons pe_int (pa_cons (C8.pe_c c__law_draw hr (by decide) (by rfl) (pa_cons (pv 0) (pa_cons pe_int pa_nil))) pa_nil)))) pa_nil))) (pa_cons (pv 1) pa_nil)))))))) pss_nil)
  (pss_one (ps_ret (pe_ifExp (pt_cmpR op_eq (pv 3) pe_str (nomark _)) (pe_tup (pa_cons (pv 3) (pa_cons (pv 2) pa_nil))) (pe_tup (pa_cons (pv 3) (pa_cons (pv 2) (pa_cons (C8.pe_c c__law_pick hr (by decide) (by rfl) (pa_cons (pv 0) (pa_cons (pe_lst (pa_cons pe_str (pa_cons pe_str (pa_cons pe_str pa_nil)))) pa_nil))) pa_nil))))))))))), ?_⟩
  obtain ⟨va, rfl, hv, k⟩ := h
  refine q_parV (dv_word [[97], [98], [122, 122], [97, 98, 99, 100]] hv (fun _ _ => ev_var rfl) rfl (by simp) (by decide)) (fun x H1 e1 hx => dv_word [Mi.wPut, Mi.wPatch, Mi.wDrop, Mi.wRename] e1.2 (fun _ _ => ev_var rfl) rfl (by simp) (by decide)) fun x y H1 H2 e1 hx e2 hy => ?_
  obtain ⟨n, rfl, hn⟩ := hx
  obtain ⟨u, rfl, hu⟩ := hy
  have hnm : Mi.isNm n = true := by
    simp only [List.mem_cons, List.not_mem_nil, or_false] at hn
    rcases hn with rfl | rfl | rfl | rfl <;> decide +kernel
  have e02 := e1.trans e2
  refine q_asgV (va := va) (P := fun x H' => ∃ cs, Mi.cellsOk cs ∧ Dt K H' x (Mi.dC cs)) (fun Q2 q2 => ⟨_, rfl, (dv_pickL (xs := [vI 0, vI 1, vI 3, vI 48]) e02.2 (fun _ _ => ev_var rfl) (el_lst (ea_cons ev_c (ea_cons ev_c (ea_cons ev_c (ea_cons ev_c ea_nil)))) (by show 4 ≤ 100000; decide)) (by simp) (by decide)) _ fun m H4 e4 hm => ?_⟩) fun xc H5 e5 hxc => ?_
  · obtain ⟨m, rfl, hm48⟩ : ∃ m' : Nat, m = vI m' ∧ m' ≤ 48 := by
      simp only [List.mem_cons, List.not_mem_nil, or_false] at hm
      rcases hm with rfl | rfl | rfl | rfl
      · exact ⟨0, rfl, by decide⟩
      · exact ⟨1, rfl, by decide⟩
      · exact ⟨3, rfl, by decide⟩
      · exact ⟨48, rfl, by decide⟩
    exact ⟨va, m, rfl, e4.2, hm48, fun cs x H' e hc hd => q2 x H' (e4.trans e) ⟨cs, hc, hd⟩⟩
  obtain ⟨cs, hcs, hdc⟩ := hxc
  have e05 := e02.trans e5
  simp only [List.mem_cons, List.not_mem_nil, or_false] at hu
  rcases hu with rfl | rfl | rfl | rfl
  · refine q_when (b := true) (et_is (et_op (ev_var rfl) ev_c (rv_eqS (b := Mi.wPut))) rfl) (fun _ H6 e6 => ?_) fun h => nomatch h
    exact s_retD (ed_tup (ead_cons (ed_var rfl (.str _)) (ead_cons (ed_var rfl (.str _)) (ead_cons (ed_var rfl (hdc.ex e6)) ead_nil))) (by show 3 ≤ 100000; decide)) fun x H7 e7 hx => k (.put n cs) x H7 (e05.trans (.of_ex e05.2 (e6.trans e7))) ⟨hnm, hcs⟩ hx
  · refine q_when (b := false) (et_is (et_op (ev_var rfl) ev_c (rv_eqS (b := Mi.wPut))) rfl) (fun h => nomatch h) fun _ H6 e6 => ?_
    refine q_when (b := true) (et_is (et_op (ev_var rfl) ev_c (rv_eqS (b := Mi.wPatch))) rfl) (fun _ H7 e7 => ?_) fun h => nomatch h
    have e07 : Vx va H H7 := e05.trans (.of_ex e05.2 (e6.trans e7))
    have hd7 := hdc.ex (e6.trans e7)
    refine ⟨_, rfl, _, rfl, ?_⟩
    refine ints_ok (n := 996) [0, 7, 996] e07.2 (fun _ => ev_var rfl) (by decide) (by decide) (by decide) (by decide) _ fun a H8 e8 ha => ?_
    refine ints_ok (n := 996) [0, 996] e8.2 (fun _ => ev_var rfl) (by decide) (by decide) (by decide) (by decide) _ fun b H9 e9 hb => ?_
    obtain ⟨a, rfl, ha⟩ := ha
    obtain ⟨b, rfl, hb⟩ := hb
    have hd9 := (e8.trans e9).dt e07.2 hd7
    refine ⟨_, rfl, (by show 5 ≤ sizeLine; decide), fun p hp => k (.patch n a b cs) _ _ ((e07.trans (e8.trans e9)).trans (.of_ex e9.2 (Ex.new hp))) ⟨hnm, ha, hb, hcs⟩ (.tup (st_of upd_same) (.cons (.str _) (.cons (.str _) (.cons (.int _) (.cons (.int _) (.cons (hd9.ex (Ex.new hp)) .nil))))))⟩
  · refine q_when (b := false) (et_is (et_op (ev_var rfl) ev_c (rv_eqS (b := Mi.wPut))) rfl) (fun h => nomatch h) fun _ H6 e6 => ?_
    refine q_when (b := false) (et_is (et_op (ev_var rfl) ev_c (rv_eqS (b := Mi.wPatch))) rfl) (fun h => nomatch h) fun _ H7 e7 => ?_
    have e07 : Vx va H H7 := e05.trans (.of_ex e05.2 (e6.trans e7))
    exact s_retD (ed_if (b := true) (et_is (et_op (ev_var rfl) ev_c (rv_eqS (b := Mi.wDrop))) rfl) (fun _ => ed_tup (ead_cons (ed_var rfl (.str _)) (ead_cons (ed_var rfl (.str _)) ead_nil)) (by show 2 ≤ 100000; decide)) fun h => nomatch h) fun x H8 e8 hx => k (.drop n) x H8 (e07.trans (.of_ex e07.2 e8)) hnm hx
  · refine q_when (b := false) (et_is (et_op (ev_var rfl) ev_c (rv_eqS (b := Mi.wPut))) rfl) (fun h => nomatch h) fun _ H6 e6 => ?_
    refine q_when (b := false) (et_is (et_op (ev_var rfl) ev_c (rv_eqS (b := Mi.wPatch))) rfl) (fun h => nomatch h) fun _ H7 e7 => ?_
    have e07 : Vx va H H7 := e05.trans (.of_ex e05.2 (e6.trans e7))
    refine (et_is (b := false) (et_op (ev_var rfl) ev_c (rv_eqS (b := Mi.wDrop))) rfl : EvT (tTest (tOp rEq (tVar 3) (tC (.str "drop")))) [some (.ref va), some xc, some (vS n), some (vS Mi.wRename)] H7 false) H7 (Ex.refl H7) _ fun H8 e8 => iteF ⟨_, rfl, _, rfl, ?_⟩
    have e08 := e07.trans (.of_ex e07.2 e8)
    refine dv_word [[99], [97, 98], [122, 122, 122]] e08.2 (fun _ _ => ev_var rfl) rfl (by simp) (by decide) _ fun y H9 e9 hy => ?_
    obtain ⟨m, rfl, hm⟩ := hy
    have hok : Mi.isNm m = true ∧ n ≠ m := by
      simp only [List.mem_cons, List.not_mem_nil, or_false] at hm hn
      rcases hm with rfl | rfl | rfl <;> rcases hn with rfl | rfl | rfl | rfl <;> exact ⟨by decide +kernel, by decide⟩
    exact ⟨(by show 3 ≤ sizeLine; decide), fun p hp => k (.rename n m) _ _ ((e08.trans e9).trans (.of_ex e9.2 (Ex.new hp))) ⟨hnm, hok.1, hok.2⟩ (.tup (st_of upd_same) (.cons (.str _) (.cons (.str _) (.cons (.str _) .nil))))⟩
end
end K9
set_option Elab.async false
set_option linter.all false
set_option maxRecDepth 100000
set_option maxHeartbeats 1000000
namespace K9
open PySem PySem.Spec PyProof.Rows L2 Evl
section
variable {P : Program} {w : World} {K : PySem.W.Frag} {mg : Str → Option Value} {base : Heap}
theorem c_law_any_question (D : DefOk K mg "_law_any_question" (top 80)) (G : Gb mg) (c__law_draw : C8.Cal P w K mg base 1 "_law_draw" SpDraw []) (c__law_pick : C8.Cal P w K mg base 2 "_law_pick" (SpPick K) []) : C8.Cal P w K mg base 3 "_law_any_question" (SpAnyQn K) [] := cal_of D S__law_any_question B__law_any_question (fun vs H Q E h => by obtain ⟨va, rfl, _⟩ := h; rfl) fun f cdv A outer s H vs Q E hr h => by
  refine ⟨_, (pss_cons (ps_set (i := 1) S__law_any_question.nd rfl (by first | exact Or.inl rfl | exact Or.inr rfl) (pe_tup (pa_cons (pe_op op_add pe_int (C8.pe_c c__law_draw hr (by decide) (by rfl) (pa_cons (pv 0) (pa_cons pe_int pa_nil)))) (pa_cons (C8.pe_c c__law_pick hr (by decide) (by rfl) (pa_cons (pv 0) (pa_cons (pe_lst (pa_cons pe_int (pa_cons pe_int (pa_cons pe_int pa_nil)))) pa_nil))) pa_nil))))
  (pss_cons (ps_par (i := 2) (j := 3) rfl S__law_any_question.nd rfl rfl (by decide) rfl rfl (pa_cons (C8.pe_c c__law_pick hr (by decide) (by rfl) (pa_cons (pv 0) (pa_cons (pe_lst (pa_cons pe_str (pa_cons pe_str (pa_cons pe_str pa_nil)))) pa_nil))) (pa_cons (C8.pe_c c__law_pick hr (by decide) (by rfl) (pa_cons (pv 0) (pa_cons (pe_lst (pa_cons pe_str (pa_cons pe_str (pa_cons pe_str pa_nil)))) pa_nil))) pa_nil)) (by first | rfl | decide +kernel))
  (pss_one (ps_ret (pe_ifExp (pt_cmpR op_eq (pv 2) pe_str (nomark _)) (pe_tup (pa_cons (pv 2) (pa_cons (pv 1) (pa_cons (pv 3) (pa_cons (C8.pe_c c__law_pick hr (by decide) (by rfl) (pa_cons (pv 0) (pa_cons (pe_lst (pa_cons pe_int (pa_cons pe_int (pa_cons (C8.pe_c c__law_draw hr (by decide) (by rfl) (pa_cons (pv 0) (pa_cons pe_int pa_nil))) pa_nil)))) pa_nil))) pa_nil))))) (pe_tup (pa_cons (pv 2) (pa_cons (pv 1) (pa_cons (pv 3) pa_nil))))))))), ?_⟩
  obtain ⟨va, rfl, hv, k⟩ := h
  refine q_asgV (va := va) (P := fun x H' => ∃ a b, Mi.saveOk a b ∧ Dt K H' x (.tuple [Mi.dI a, Mi.dI b])) (fun Q2 q2 => dv_drawI (n := 996) hv (ev_var rfl) (by decide) (by decide) _ fun x H1 e1 hx => ?_) fun xs H3 e3 hxs => ?_
  · obtain ⟨r, rfl, hr1⟩ := hx
    refine ⟨_, _, rfl, rfl, dv_pickL (xs := [vI 1, vI 996, vI 10]) e1.2 (fun _ _ => ev_var rfl) (el_lst (ea3 ev_c ev_c ev_c) (by show 3 ≤ 100000; decide)) (by simp) (by decide) _ fun y H2 e2 hy => ?_⟩
    obtain ⟨b, rfl, hb⟩ : ∃ b : Nat, y = vI b ∧ 1 ≤ b ∧ b ≤ 996 := by
      simp only [List.mem_cons, List.not_mem_nil, or_false] at hy
      rcases hy with rfl | rfl | rfl
      · exact ⟨1, rfl, by decide, by decide⟩
      · exact ⟨996, rfl, by decide, by decide⟩
      · exact ⟨10, rfl, by decide, by decide⟩
    have e02 := e1.trans e2
    refine ⟨by show 2 ≤ sizeLine; decide, fun p hp => q2 _ _ (e02.trans (.of_ex e02.2 (Ex.new hp))) ⟨1 + r, b, ⟨⟨by omega, by omega⟩, hb⟩, .tup (st_of upd_same) (.cons ?_ (.cons (.int _) .nil))⟩⟩
    have e : (.int (1 + (r : Int)) : V) = vI (1 + r) := by
      show V.int (1 + (r : Int)) = V.int ((1 + r : Nat) : Int)
      rw [Int.natCast_add] <;> rfl
    show Dt K _ (V.int (1 + (r : Int))) _
    rw [e]
    exact .int _
  obtain ⟨a, b, hsv, hds⟩ := hxs
  refine q_parV (dv_word [Mi.wThere, Mi.wLength, Mi.wCell] e3.2 (fun _ _ => ev_var rfl) rfl (by simp) (by decide)) (fun x H1 e1 hx => dv_word [[97], [122, 122], [97, 98, 99, 100]] e1.2 (fun _ _ => ev_var rfl) rfl (by simp) (by decide)) fun x y H4 H5 e4 hx e5 hy => ?_
  obtain ⟨u, rfl, hu⟩ := hx
  obtain ⟨n, rfl, hn⟩ := hy
  have hnm : Mi.isNm n = true := by
    simp only [List.mem_cons, List.not_mem_nil, or_false] at hn
    rcases hn with rfl | rfl | rfl <;> decide +kernel
  have e35 := e4.trans e5
  have e05 := e3.trans e35
  have hd5 := e35.dt e3.2 hds
  simp only [List.mem_cons, List.not_mem_nil, or_false] at hu
  have two : ∀ {u : Mi.Tx}, decide (u = Mi.wCell) = false → (∀ x H', Vx va H H' → Dt K H' x (.tuple [Mi.dS u, .tuple [Mi.dI a, Mi.dI b], Mi.dS n]) → Q x H') → ∀ {te : TE}, tIf (tTest (tOp rEq (tVar 2) (tC (.str "cell")))) te (tTup (tCons (tVar 2) (tCons (tVar 1) (tCons (tVar 3) tNil)))) [some (.ref va), some xs, some (vS u), some (vS n)] H5 Q := fun {u} hu k {te} => by
    refine (et_is (et_op (ev_var rfl) ev_c (rv_eqS (b := Mi.wCell))) hu : EvT (tTest (tOp rEq (tVar 2) (tC (.str "cell")))) [some (.ref va), some xs, some (vS u), some (vS n)] H5 false) H5 (Ex.refl H5) _ fun H6 e6 => iteF ?_
    exact ed_tup (ead_cons (ed_var rfl (.str _)) (ead_cons (ed_var rfl (hd5.ex e6)) (ead_cons (ed_var rfl (.str _)) ead_nil))) (by show 3 ≤ 100000; decide) H6 (Ex.refl H6) _ fun x H7 e7 hx => k x H7 (e05.trans (.of_ex e05.2 (e6.trans e7))) hx
  rcases hu with rfl | rfl | rfl
  · exact two (by decide) fun x H' e hx => k (.there a b n) x H' e ⟨hsv, hnm⟩ hx
  · exact two (by decide) fun x H' e hx => k (.length a b n) x H' e ⟨hsv, hnm⟩ hx
  · refine (et_is (et_op (ev_var rfl) ev_c (rv_eqS (b := Mi.wCell))) rfl : EvT (tTest (tOp rEq (tVar 2) (tC (.str "cell")))) [some (.ref va), some xs, some (vS Mi.wCell), some (vS n)] H5 true) H5 (Ex.refl H5) _ fun H6 e6 => iteT ⟨_, rfl, _, rfl, _, rfl, ?_⟩
    have e06 := e05.trans (.of_ex e05.2 e6)
    refine ints_ok (n := 995) [0, 995] e06.2 (fun _ => ev_var rfl) (by decide) (by decide) (by decide) (by decide) _ fun t H7 e7 ht => ?_
    obtain ⟨t, rfl, ht⟩ := ht
    have hd7 := e7.dt e06.2 (hd5.ex e6)
    exact ⟨(by show 4 ≤ sizeLine; decide), fun p hp => k (.cell a b n t) _ _ ((e06.trans e7).trans (.of_ex e7.2 (Ex.new hp))) ⟨hsv, hnm, ht⟩ (.tup (st_of upd_same) (.cons (.str _) (.cons (hd7.ex (Ex.new hp)) (.cons (.str _) (.cons (.int _) .nil)))))⟩
/-! ### _law_bent_text -/
section
variable {σ : L2.St} {H : Hp} {te ti : TE}
theorem ev_slTo {z : Mi.Tx} {n : Nat} (h : Ev te σ H (vS z)) (h2 : Ev ti σ H (vI n)) (hz : z.length ≤ 100000) : Ev (tSl C8.rSlX te tNoPart (tPart ti)) σ H (vS (z.take n)) := fun H1 e Q q =>
  h H1 e _ fun H2 e2 => h2 H2 (e.trans e2) _ fun H3 e3 => ⟨(n : Int), rfl, Mi.S z, rfl, by rw [SX.S_len]; exact sz_of hz, by
    rw [SX.slice_to (by omega), Int.toNat_natCast]
    exact q H3 (e2.trans e3)⟩
theorem ev_slFrom {z : Mi.Tx} {n : Nat} (h : Ev te σ H (vS z)) (h2 : Ev ti σ H (vI n)) (hz : z.length ≤ 100000) : Ev (tSl C8.rSlX te (tPart ti) tNoPart) σ H (vS (z.drop n)) := fun H1 e Q q =>
  h H1 e _ fun H2 e2 => h2 H2 (e.trans e2) _ fun H3 e3 => ⟨(n : Int), rfl, Mi.S z, rfl, by rw [SX.S_len]; exact sz_of hz, by
    rw [SX.slice_from (by omega), Int.toNat_natCast]
    exact q H3 (e2.trans e3)⟩
theorem cut_to (xs : List V) (n : Nat) : cutV xs none (some (n : Int)) = xs.take n := by
  unfold cutV
  rw [HT.sIx_nat, HT.sIx_none]
  show (xs.drop 0).take (min n xs.length - 0) = _
  rw [List.drop_zero, Nat.sub_zero]
  by_cases h : n ≤ xs.length
  · rw [Nat.min_eq_left h]
  · rw [Nat.min_eq_right (by omega), List.take_of_length_le (Nat.le_refl _), List.take_of_length_le (by omega)]
theorem cut_from (xs : List V) (n : Nat) : cutV xs (some (n : Int)) none = xs.drop n := by
  unfold cutV
  rw [HT.sIx_nat, HT.sIx_none]
  by_cases h : n ≤ xs.length
  · rw [Nat.min_eq_left h, List.take_of_length_le (by rw [List.length_drop] <;> omega)]
  · rw [Nat.min_eq_right (by omega), List.drop_of_length_le (Nat.le_refl _), List.drop_of_length_le (by omega), List.take_nil]
theorem el_slTo {p : Addr} {xs : List V} {n : Nat} (h : Ev te σ H (.ref p)) (hs : SqL K H p xs) (h2 : Ev ti σ H (vI n)) : EvL (tSl (rSlL K) te tNoPart (tPart ti)) σ H (xs.take n) := fun H1 e Q q =>
  h H1 e _ fun H2 e2 => h2 H2 (e.trans e2) _ fun H3 e3 => ⟨(n : Int), rfl, p, xs, rfl, ex_l ((e.trans e2).trans e3) hs, fun l hl => q l _ (fresh_back (e2.trans e3) hl) ((e2.trans e3).trans (Ex.new hl)) (by rw [upd_same, cut_to])⟩
theorem el_slFrom {p : Addr} {xs : List V} {n : Nat} (h : Ev te σ H (.ref p)) (hs : SqL K H p xs) (h2 : Ev ti σ H (vI n)) : EvL (tSl (rSlL K) te (tPart ti) tNoPart) σ H (xs.drop n) := fun H1 e Q q =>
  h H1 e _ fun H2 e2 => h2 H2 (e.trans e2) _ fun H3 e3 => ⟨(n : Int), rfl, p, xs, rfl, ex_l ((e.trans e2).trans e3) hs, fun l hl => q l _ (fresh_back (e2.trans e3) hl) ((e2.trans e3).trans (Ex.new hl)) (by rw [upd_same, cut_from])⟩
end
theorem sum_take (l : List Nat) (n : Nat) : (l.take n).sum ≤ l.sum := by
  have := List.take_append_drop n l
  have h : (l.take n ++ l.drop n).sum = l.sum := by rw [this]
  rw [List.sum_append] at h
  omega
theorem sum_drop (l : List Nat) (n : Nat) : (l.drop n).sum ≤ l.sum := by
  have := List.take_append_drop n l
  have h : (l.take n ++ l.drop n).sum = l.sum := by rw [this]
  rw [List.sum_append] at h
  omega
theorem sum_td (l : List Nat) {m n : Nat} (h : m ≤ n) : (l.take m).sum + (l.drop n).sum ≤ l.sum := by
  have h1 : (l.take n ++ l.drop n).sum = l.sum := by rw [List.take_append_drop]
  rw [List.sum_append] at h1
  have h2 : ((l.take n).take m).sum ≤ (l.take n).sum := sum_take _ _
  rw [List.take_take, Nat.min_eq_left h] at h2
  omega
theorem joinL_asc {c : Nat} (hc : c < 128) : ∀ {ps : List Mi.Tx}, (∀ p ∈ ps, Asc p) → Asc (TL.joinL [c] ps)
  | [], _ => fun d hd => by cases hd
  | [p], h => h p List.mem_cons_self
  | p :: q :: r, h => by
    show Asc (p ++ ([c] ++ TL.joinL [c] (q :: r)))
    intro d hd
    rcases List.mem_append.mp hd with hd | hd
    · exact h p List.mem_cons_self d hd
    · rcases List.mem_append.mp hd with hd | hd
      · rw [List.mem_singleton.mp hd]
        exact hc
      · exact joinL_asc hc (fun z hz => h z (List.mem_cons_of_mem _ hz)) d hd
theorem Asc.app {a b : Mi.Tx} (h : Asc a) (h2 : Asc b) : Asc (a ++ b) := fun c hc => (List.mem_append.mp hc).elim (h c) (h2 c)
theorem Asc.take {a : Mi.Tx} (h : Asc a) (n : Nat) : Asc (a.take n) := fun c hc => h c (List.mem_of_mem_take hc)
theorem Asc.drop {a : Mi.Tx} (h : Asc a) (n : Nat) : Asc (a.drop n) := fun c hc => h c (List.mem_of_mem_drop hc)
def SpBent : Sp := fun vs H Q _ => ∃ (va : Addr) (t : Mi.Tx), vs = [.ref va, vS t] ∧ Vt va H ∧ t.length ≤ 4000 ∧ Asc t ∧ ∀ (t' : Mi.Tx) H', Vx va H H' → Asc t' → t'.length ≤ 2 * t.length + 10 → Q (vS t') H'
def bents : List Mi.Tx := [[], [45], [48], [48, 48], [57, 57, 54], [57, 57, 55], [57, 57, 53], [97], [97, 98, 99, 100], [97, 98, 99, 100, 101], [49, 46, 49], [49, 46, 48], [57, 57, 55, 46, 49], [49, 46, 50, 46, 51], [112, 117, 116], [53, 44, 54], [53, 44, 44, 54], [53, 44, 57, 57, 55], [44], [49, 46], [100, 114, 111, 112]]
theorem bents_ok : ∀ t ∈ bents, Asc t ∧ t.length ≤ 5 := by
  have h : bents.all (fun t => (t.all fun c => decide (c < 128)) && decide (t.length ≤ 5)) = true := by decide +kernel
  intro t ht
  have q := List.all_eq_true.mp h t ht
  rw [Bool.and_eq_true] at q
  exact ⟨asc_of q.1, of_decide_eq_true q.2⟩
abbrev N__law_bent_text : List Str := ["_law_vat_here", "_law_text", "_law_sign", "_law_words", "_law_place", "_law_word", "_law_at", "_law_way"]
theorem S__law_bent_text : FnScope N__law_bent_text ["_law_vat_here", "_law_text"] (defScope (top 78)) := ⟨rfl, rfl, rfl, by decide +kernel, rfl, by decide +kernel, by decide +kernel⟩
theorem B__law_bent_text (kV doc pm : Value) (an : Option Addr) (cdv ct : Value) (us : List Value) (hl : us.length = (["_law_vat_here", "_law_text"] : List Str).length) : bindArgs (PySem.W.fnOf "_law_bent_text" "_law_bent_text" (defArgs (top 78)) (defBody (top 78)) (defScope (top 78)) .none kV doc pm an cdv ct) ⟨us, []⟩ = pure ((["_law_vat_here", "_law_text"] : List Str).zip us) := match us, hl with | [_, _], _ => rfl
theorem c_law_bent_text (D : DefOk K mg "_law_bent_text" (top 78)) (G : Gb mg) (c__law_draw : C8.Cal P w K mg base 1 "_law_draw" SpDraw []) (c__law_pick : C8.Cal P w K mg base 2 "_law_pick" (SpPick K) []) : C8.Cal P w K mg base 3 "_law_bent_text" SpBent [] := cal_of D S__law_bent_text B__law_bent_text (fun vs H Q E h => by obtain ⟨va, t, rfl, _⟩ := h; rfl) fun f cdv A outer s H vs Q E hr h => by
  refine ⟨_, (pss_cons (ps_par (i := 6) (j := 7) rfl S__law_bent_text.nd rfl rfl (by decide) rfl rfl (pa_cons (C8.pe_c c__law_draw hr (by decide) (by rfl) (pa_cons (pv 0) (pa_cons (pe_op op_add (pe_callB call_len_str (by rfl) G.f_len boot_len (pa_cons (pv 1) pa_nil)) pe_int) pa_nil))) (pa_cons (C8.pe_c c__law_draw hr (by decide) (by rfl) (pa_cons (pv 0) (pa_cons pe_int pa_nil))) pa_nil)) (by first | rfl | decide +kernel))
  (pss_cons (ps_set (i := 2) S__law_bent_text.nd rfl (by first | exact Or.inl rfl | exact Or.inr rfl) (C8.pe_c c__law_pick hr (by decide) (by rfl) (pa_cons (pv 0) (pa_cons pe_str pa_nil))))
  (pss_cons (ps_if (pt_cmpR op_lt (pv 7) pe_int (nomark _)) (pss_one (ps_ret (pe_ix ix_list (pe_lst (pa_cons (pe_op op_add_str (pe_op op_add_str (pe_slice C8.sl_txt (pv 1) po_none (po_some (pv 6))) (pv 2)) (pe_slice C8.sl_txt (pv 1) (po_some (pv 6)) po_none)) (pa_cons (pe_op op_add_str (pe_slice C8.sl_txt (pv 1) po_none (po_some (pv 6))) (pe_slice C8.sl_txt (pv 1) (po_some (pe_op op_add (pv 6) pe_int)) po_none)) (pa_cons (pe_op op_add_str (pe_op op_add_str (pe_slice C8.sl_txt (pv 1) po_none (po_some (pv 6))) (pv 2)) (pe_slice C8.sl_txt (pv 1) (po_some (pe_op op_add (pv 6) pe_int)) po_none)) pa_nil)))) (pv 7) (fun _ _ => rfl)))) pss_nil)
  (pss_cons (ps_set (i := 3) S__law_bent_text.nd rfl (by first | exact Or.inl rfl | exact Or.inr rfl) (pe_split (pv 1) pe_str))
  (pss_cons (ps_set (i := 4) S__law_bent_text.nd rfl (by first | exact Or.inl rfl | exact Or.inr rfl) (C8.pe_c c__law_draw hr (by decide) (by rfl) (pa_cons (pv 0) (pa_cons (pe_callB call_len_seq (by rfl) G.f_len boot_len (pa_cons (pv 3) pa_nil)) pa_nil))))
  (pss_cons (ps_set (i := 5) S__law_bent_text.nd rfl (by first | exact Or.inl rfl | exact Or.inr rfl) (C8.pe_c c__law_pick hr (by decide) (by rfl) (pa_cons (pv 0) (pa_cons (pe_lst (pa_cons pe_str (pa_cons pe_str (pa_cons pe_str (pa_cons pe_str (pa_cons pe_str (pa_cons pe_str (pa_cons pe_str (pa_cons pe_str (pa_cons pe_str (pa_cons pe_str (pa_cons pe_str (pa_cons pe_str (pa_cons pe_str (pa_cons pe_str (pa_cons pe_str (pa_cons pe_str (pa_cons pe_str (pa_cons pe_str (pa_cons pe_str (pa_cons pe_str (pa_cons pe_str pa_nil)))))))))))))))))))))) pa_nil))))
  (pss_cons (ps_if (pt_cmpR op_lt (pv 7) pe_int (nomark _)) (pss_one (ps_ret (pe_join pe_str (pe_op op_cat (pe_op op_cat (pe_slice sl_list (pv 3) po_none (po_some (pv 4))) (pe_lst (pa_cons (pv 5) pa_nil))) (pe_slice sl_list (pv 3) (po_some (pe_op op_add (pv 4) pe_int)) po_none))))) pss_nil)
  (pss_one (ps_ret (pe_ifExp (pt_cmpR op_eq (pv 7) pe_int (nomark _)) (pe_join pe_str (pe_op op_cat (pe_slice sl_list (pv 3) po_none (po_some (pv 4))) (pe_slice sl_list (pv 3) (po_some (pe_op op_add (pv 4) pe_int)) po_none))) (pe_join pe_str (pe_op op_cat (pe_slice sl_list (pv 3) po_none (po_some (pe_op op_add (pv 4) pe_int))) (pe_slice sl_list (pv 3) (po_some (pv 4)) po_none))))))))))))), ?_⟩
  obtain ⟨va, t, rfl, hv, hz, ha, k⟩ := h
  refine q_parV (dv_draw (n := t.length + 1) hv (ea2 (ev_var rfl) (ev_op (ev_lenS (w := t) (ev_var rfl) (by omega)) ev_c rv_I0)) (by omega) (by omega)) (fun x H1 e1 hx => dv_drawI (n := 8) e1.2 (ev_var rfl) (by decide) (by decide)) fun x y H1 H2 e1 hx e2 hy => ?_
  obtain ⟨at_, rfl, hat⟩ := hx
  obtain ⟨way, rfl, hway⟩ := hy
  have e02 := e1.trans e2
  refine q_asgV (dv_pickS (z := [32, 46, 44, 45, 48, 49, 50, 57, 97, 122, 65, 59]) e02.2 (ea2 (ev_var rfl) ev_c) (by simp) (by decide)) fun x H3 e3 hx => ?_
  obtain ⟨sg, rfl, hsg⟩ := hx
  have hsgA : Asc [sg] := fun c hc => by
    rw [List.mem_singleton.mp hc]
    simp only [List.mem_cons, List.not_mem_nil, or_false] at hsg
    omega
  have e03 := e02.trans e3
  have hb : t.length ≤ 100000 := by omega
  refine q_when (b := decide (way < 3)) (et_is (et_op (ev_var rfl) ev_c rv_I0) (decide_eq_decide.mpr (by omega))) (fun hw H4 e4 => ?_) fun hw H4 e4 => ?_
  · have e04 : ∀ {H5 : Hp}, Ex H4 H5 → Vx va H H5 := fun e => e03.trans (.of_ex e03.2 (e4.trans e))
    have hw3 : way < 3 := of_decide_eq_true hw
    have z1 : Asc (t.take at_ ++ [sg] ++ t.drop at_) := ((ha.take _).app hsgA).app (ha.drop _)
    have z2 : Asc (t.take at_ ++ t.drop (at_ + 1)) := (ha.take _).app (ha.drop _)
    have z3 : Asc (t.take at_ ++ [sg] ++ t.drop (at_ + 1)) := ((ha.take _).app hsgA).app (ha.drop _)
    have L : ∀ n m, (t.take n).length ≤ t.length ∧ (t.drop m).length ≤ t.length := fun n m => ⟨by rw [List.length_take]; omega, by rw [List.length_drop]; omega⟩
    have l0 := L at_ at_
    have l1 := L at_ (at_ + 1)
    have T3 : EvL _ _ H4 [vS (t.take at_ ++ [sg] ++ t.drop at_), vS (t.take at_ ++ t.drop (at_ + 1)), vS (t.take at_ ++ [sg] ++ t.drop (at_ + 1))] := el_lst (σ := [some (.ref va), some (vS t), some (vS [sg]), none, none, none, some (vI at_), some (vI way)]) (ea3 (ev_cat (ev_cat (ev_slTo (te := tVar 1) (ti := tVar 6) (ev_var rfl) (ev_var rfl) hb) (ev_var (i := 2) rfl) (by rw [List.length_singleton]; omega)) (ev_slFrom (te := tVar 1) (ti := tVar 6) (ev_var rfl) (ev_var rfl) hb) (by rw [List.length_append, List.length_singleton]; omega))
        (ev_cat (ev_slTo (te := tVar 1) (ti := tVar 6) (ev_var rfl) (ev_var rfl) hb) (ev_slFrom (te := tVar 1) (ti := tOp (rI0 fun i j => .int (i + j)) (tVar 6) (tC (.int 1))) (n := at_ + 1) (ev_var rfl) (ev_op (ev_var rfl) ev_c rv_I0) hb) (by omega))
        (ev_cat (ev_cat (ev_slTo (te := tVar 1) (ti := tVar 6) (ev_var rfl) (ev_var rfl) hb) (ev_var (i := 2) rfl) (by rw [List.length_singleton]; omega)) (ev_slFrom (te := tVar 1) (ti := tOp (rI0 fun i j => .int (i + j)) (tVar 6) (tC (.int 1))) (n := at_ + 1) (ev_var rfl) (ev_op (ev_var rfl) ev_c rv_I0) hb) (by rw [List.length_append, List.length_singleton]; omega))) (by show 3 ≤ 100000; decide)
    have hc : way = 0 ∨ way = 1 ∨ way = 2 := by omega
    rcases hc with rfl | rfl | rfl
    · exact s_ret (ev_opL1 T3 (fun _ _ => ev_var rfl) fun p H5 hp e5 => rv_ixL (sq_of hp) (v := vS (t.take at_ ++ [sg] ++ t.drop at_)) rfl) fun H5 e5 => k _ H5 (e04 e5) z1 (by rw [List.length_append, List.length_append, List.length_singleton]; omega)
    · exact s_ret (ev_opL1 T3 (fun _ _ => ev_var rfl) fun p H5 hp e5 => rv_ixL (sq_of hp) (v := vS (t.take at_ ++ t.drop (at_ + 1))) rfl) fun H5 e5 => k _ H5 (e04 e5) z2 (by rw [List.length_append]; omega)
    · exact s_ret (ev_opL1 T3 (fun _ _ => ev_var rfl) fun p H5 hp e5 => rv_ixL (sq_of hp) (v := vS (t.take at_ ++ [sg] ++ t.drop (at_ + 1))) rfl) fun H5 e5 => k _ H5 (e04 e5) z3 (by rw [List.length_append, List.length_append, List.length_singleton]; omega)
  · have e04 := e03.trans (.of_ex e03.2 e4)
    refine q_asgL (el_split (c := 32) (w := t) (ev_var rfl) ev_c (by decide) (by omega)) fun p H5 hp e5 h5 => ?_
    have hpva : p ≠ va := fun z => by
      obtain ⟨a, b, c, hh⟩ := e04.2
      rw [z, hh] at hp
      cases hp
    have hsum := spl_sum (c := 32) t []
    have hne := List.length_pos_iff.mpr (spl_ne (c := 32) t [])
    have hwa : ∀ q ∈ TL.spl [32] 0 [] t, Asc q := fun q hq => ha.spl hq
    rw [List.length_nil] at hsum
    revert h5 hsum hne hwa
    generalize TL.spl [32] 0 [] t = ws
    intro h5 hsum hne hwa
    have hlw : ws.length ≤ 4001 := by omega
    have e05 := e04.trans (.of_ex e04.2 e5)
    refine q_asgV (dv_draw (n := ws.length) e05.2 (ea2 (ev_var rfl) (ev_is (ev_lenL (ev_var rfl) (sq_of h5)) (by rw [List.length_map] <;> rfl))) hne (by omega)) fun x H6 e6 hx => ?_
    obtain ⟨pl, rfl, hpl⟩ := hx
    have h6 := e6.1 p _ hpva h5
    have e06 := e05.trans e6
    refine q_asgV (dv_word bents e06.2 (fun _ _ => ev_var rfl) rfl (by decide) (by decide)) fun x H7 e7 hx => ?_
    obtain ⟨bw, rfl, hbw⟩ := hx
    obtain ⟨hbA, hbl⟩ := bents_ok bw hbw
    have h7 := e7.1 p _ hpva h6
    have e07 := e06.trans e7
    have jl : ∀ {us : List Mi.Tx}, (us.map List.length).sum + us.length ≤ 2 * t.length + 10 → (TL.joinL [32] us).length ≤ 2 * t.length + 10 := fun h => Nat.le_trans (joinL_len _) h
    have lm : ∀ l : List Mi.Tx, (l.map vS).length = l.length := fun l => List.length_map ..
    refine q_when (b := decide (way < 6)) (et_is (et_op (ev_var rfl) ev_c rv_I0) (decide_eq_decide.mpr (by omega))) (fun hw6 H8 e8 => ?_) fun hw6 H8 e8 => ?_
    · have h8 := e8 p _ h7
      have hs := sum_td (ws.map List.length) (show pl ≤ pl + 1 from Nat.le_add_right _ _)
      rw [← List.map_take, ← List.map_drop] at hs
      have hb1 : (((ws.take pl ++ [bw]) ++ ws.drop (pl + 1)).map List.length).sum + ((ws.take pl ++ [bw]) ++ ws.drop (pl + 1)).length ≤ 2 * t.length + 10 := by
        rw [List.map_append, List.sum_append, List.map_append, List.sum_append, List.length_append, List.length_append, List.length_take, List.length_drop]
        simp only [List.map_cons, List.map_nil, List.sum_cons, List.sum_nil, List.length_singleton]
        omega
      refine s_ret (ev_join (c := 32) (ws := (ws.take pl ++ [bw]) ++ ws.drop (pl + 1)) ev_c (el_eq (el_cat (el_cat (el_slTo (ev_var rfl) (sq_of h8) (ev_var rfl)) (el_lst (ea1 (ev_var rfl)) (show 1 ≤ 100000 by decide)) ?_) (el_slFrom (n := pl + 1) (ev_var rfl) (sq_of h8) (ev_op (ev_var rfl) ev_c rv_I0)) ?_) ?_) (by omega)) fun H9 e9 => k _ H9 (e07.trans (.of_ex e07.2 (e8.trans e9))) (joinL_asc (by decide) fun q hq => ?_) (jl hb1)
      · rw [List.length_take, lm, List.length_singleton]
        omega
      · rw [List.length_append, List.length_take, List.length_drop, lm, List.length_singleton]
        omega
      · rw [List.map_append, List.map_append, List.map_take, List.map_drop] <;> rfl
      · rcases List.mem_append.mp hq with hq | hq
        · rcases List.mem_append.mp hq with hq | hq
          · exact hwa q (List.mem_of_mem_take hq)
          · rw [List.mem_singleton.mp hq]
            exact hbA
        · exact hwa q (List.mem_of_mem_drop hq)
    · have h8 := e8 p _ h7
      have hs := sum_td (ws.map List.length) (show pl ≤ pl + 1 from Nat.le_add_right _ _)
      rw [← List.map_take, ← List.map_drop] at hs
      have hs1 := sum_take (ws.map List.length) (pl + 1)
      have hs2 := sum_drop (ws.map List.length) pl
      rw [← List.map_take] at hs1
      rw [← List.map_drop] at hs2
      have hb1 : ((ws.take pl ++ ws.drop (pl + 1)).map List.length).sum + (ws.take pl ++ ws.drop (pl + 1)).length ≤ 2 * t.length + 10 := by
        rw [List.map_append, List.sum_append, List.length_append, List.length_take, List.length_drop]
        omega
      have hb2 : ((ws.take (pl + 1) ++ ws.drop pl).map List.length).sum + (ws.take (pl + 1) ++ ws.drop pl).length ≤ 2 * t.length + 10 := by
        rw [List.map_append, List.sum_append, List.length_append, List.length_take, List.length_drop]
        omega
      have ea : ∀ {a b : Nat}, ∀ q ∈ ws.take a ++ ws.drop b, Asc q := fun {a b} q hq => (List.mem_append.mp hq).elim (fun h => hwa q (List.mem_of_mem_take h)) fun h => hwa q (List.mem_of_mem_drop h)
      refine s_ret (v := vS (if way = 6 then TL.joinL [32] (ws.take pl ++ ws.drop (pl + 1)) else TL.joinL [32] (ws.take (pl + 1) ++ ws.drop pl))) (ev_if (b := decide (way = 6)) (et_is (et_op (ev_var rfl) ev_c (rv_eq rfl)) ?_) (fun hb => ?_) fun hb => ?_) fun H9 e9 => ?_
      · show decide (V.int (way : Int) = V.int 6) = decide (way = 6)
        rw [dec_int, Bool.eq_iff_iff, beq_iff_eq, decide_eq_true_iff]
        omega
      · rw [if_pos (of_decide_eq_true hb)]
        refine ev_join (c := 32) ev_c (el_eq (el_cat (el_slTo (ev_var rfl) (sq_of h8) (ev_var rfl)) (el_slFrom (n := pl + 1) (ev_var rfl) (sq_of h8) (ev_op (ev_var rfl) ev_c rv_I0)) ?_) ?_) (by omega)
        · rw [List.length_take, List.length_drop, lm]
          omega
        · rw [List.map_append, List.map_take, List.map_drop]
      · rw [if_neg (of_decide_eq_false hb)]
        refine ev_join (c := 32) ev_c (el_eq (el_cat (el_slTo (n := pl + 1) (ev_var rfl) (sq_of h8) (ev_op (ev_var rfl) ev_c rv_I0)) (el_slFrom (ev_var rfl) (sq_of h8) (ev_var rfl)) ?_) ?_) (by omega)
        · rw [List.length_take, List.length_drop, lm]
          omega
        · rw [List.map_append, List.map_take, List.map_drop]
      · by_cases h6' : way = 6
        · rw [if_pos h6']
          exact k _ H9 (e07.trans (.of_ex e07.2 (e8.trans e9))) (joinL_asc (by decide) ea) (jl hb1)
        · rw [if_neg h6']
          exact k _ H9 (e07.trans (.of_ex e07.2 (e8.trans e9))) (joinL_asc (by decide) ea) (jl hb2)
end
end K9
set_option Elab.async false
set_option linter.all false
set_option maxRecDepth 100000
set_option maxHeartbeats 1000000
/-! Defs that ask that no repr is under way; repr of data. -/
namespace K9
open PySem PySem.Spec PyProof.Rows L2 Evl
/-- a def's promise where the guards are empty -/
structure FnG (P : Program) (w : World) (K : PySem.W.Frag) (mg : Str → Option Value) (base : Heap) (k : Nat) (f : Addr) (fd : FuncData) (ps : List Str) (sp : Sp) : Prop where
  len : ∀ vs H Q E, sp vs H Q E → vs.length = ps.length
  go : ∀ (A : Around) (fr : List Env) (s : Shared) (H : Hp) (us : List Value) (vs : List V) (Q : VK), A.guards = some [] → Room k A → Env0 P w K mg base A fr s H → BindsTo s fd ⟨us, []⟩ (ps.zip us) → Vals vs us → sp vs H Q C8.E0 →
    codeAny (model P w) A (.call (.ref f) ⟨us, []⟩) (CR C8.CX0 fr P w H s Q C8.E0) s
section
variable {P : Program} {w : World} {K : PySem.W.Frag} {mg : Str → Option Value} {base : Heap}
/-- the body's end is the call's end -/
theorem end_of {N : List Str} {qual : Str} {scope : Scope} {f : Addr} {cdv : Value} {A : Around} {fr : List Env} {s s' : Shared} {H : Hp} {Q : VK} {fl : Flow}
    (h : SP (cxOf C8.CX0 P w K mg base N qual scope f cdv A fr s H C8.E0) [] { nx := fun _ H' => Q .non H', rt := Q } fl s') :
    CR C8.CX0 fr P w H s Q C8.E0 (.ok (.ret (match fl with | .ret v => v | _ => .none))) s' := by
  cases fl with
  | ret u =>
    obtain ⟨v, σ1, H1, J, rv, q⟩ := h
    exact ⟨v, H1, J.os, J.bare, J.base, J.hok, rv, q⟩
  | next =>
    obtain ⟨σ1, H1, J, q⟩ := h
    exact ⟨.non, H1, J.os, J.bare, J.base, J.hok, rfl, q⟩
  | brk => exact h.elim fun _ z => z.elim fun _ z => z.2.elim
  | cont => exact h.elim fun _ z => z.elim fun _ z => z.2.elim
theorem fnG_of {x : Str} {st : Stmt} {N ps : List Str} {k : Nat} {sp : Sp} {f : Addr} {fd : FuncData} (F : FunD K x x (defArgs st) (defBody st) (defScope st) [] [] f fd) (S : FnScope N ps (defScope st)) (len : ∀ vs H Q E, sp vs H Q E → vs.length = ps.length)
    (body : ∀ (cdv : Value) (A : Around) (fr : List Env) (s : Shared) (H : Hp) (vs : List V) (Q : VK), A.guards = some [] → Room k (A.deeper (envOfC x (defScope st) s.heap.objs.size f cdv)) → sp vs H Q C8.E0 →
      ∃ t, PSs (cxOf C8.CX0 P w K mg base N x (defScope st) f cdv A fr s H C8.E0).nox (defBody st) t ∧ t { nx := fun _ H' => Q .non H', rt := Q } (start N vs) H) : FnG P w K mg base (k + 1) f fd ps sp := by
  obtain ⟨oc, od, dV, kV, doc, pm, an, cdv, ct, osl, rfl, lk, hcd, _, _⟩ := F.ex
  refine ⟨len, fun A fr s H us vs Q hg hr e0 hb rel hsp => ?_⟩
  have kin := e0.mod.kin.keeps (h' := s.heap) fun b o e => (e0.bs b o e).1
  have nol := e0.mod.nolimit.keeps (h' := s.heap) fun b o e => (e0.bs b o e).1
  obtain ⟨t, ht, hq⟩ := body cdv A fr s H vs Q hg (hr.deeper _) hsp
  refine codeAny_call_function hr.depth (kin _ _ lk) rfl S.co S.gen rfl (PySem.W.codeRec_of kin hcd) (hb _ _ _ _ (wpAny_newFunctionEnv_cells S.kind (fun y hy => ?_) fun env he s1 x => ?_))
  · rcases S.par y.1 (List.of_mem_zip (show (y.1, y.2) ∈ ps.zip us from hy)).1 with q | q
    · exact .inl q
    · exact .inr ⟨q, PySem.W.cellsFrom_some _ _ _ (.inl q)⟩
  · subst he
    have I0 := inv_start (CX := C8.CX0) (P := P) (w := w) (E := C8.E0) S hr.hd e0 (len _ _ _ _ hsp) rel x
    exact ⟨nol.keeps x.toInCall.keep, codeAny_func (wpAny_mono (ht.nox.run [] s1 _ H _ I0 hq) (fun fl s' hs => by cases fl <;> exact end_of hs) fun _ _ z => z)⟩
/-- such a def by its name -/
structure CalG (P : Program) (w : World) (K : PySem.W.Frag) (mg : Str → Option Value) (base : Heap) (k : Nat) (x : Str) (sp : Sp) : Prop where
  ex : ∃ f fd ps, FnG P w K mg base k f fd ps sp ∧ mg x = some (.ref f) ∧ PySem.W.keepIn K (.ref f) = true ∧ Binds K fd ps []
end
section
variable {X : Cx} {k j : Nat} {x : Str} {sp : Sp} {p pos : Pos} {e : Expr} {es : List Expr} {t : TA}
theorem pe_cG (c : CalG X.prog X.w X.K X.mg X.base k x sp) (hgd : X.A.guards = some []) (hr : Room j X.A) (hk : k ≤ j) (hg : Gl X x) (ha : PA X (e :: es) t)
    (hdb : (x == ("__debug__" : Str)) = false := by decide) (he : starEach (e :: es) X.env = (false, eval e X.env) :: starEach es X.env := by rfl) (hpl : (backTo pos (starEach es X.env)).any (·.1) = false := by rfl) :
    PE X (.Call (.Name x p) (e :: es) [] pos) (tCall sp [] C8.E0 t) := by
  obtain ⟨f, fd, ps, F, hm, kp, b⟩ := c.ex
  refine ⟨fun pins s σ H Q I h => wpAny_Call_Name_kw (ld_glob I hg hm (PySem.W.callWith_K (h₀ := X.base) I.ok.mod.kin kp (thn (ha.run pos pins s σ H _ I h) fun us s1 hh => ?_) he hpl) hdb)⟩
  obtain ⟨vs, H1, I1, rel, q⟩ := hh
  rw [List.append_nil] at q
  have hb := b s1 us I1.kIn (by rw [List.append_nil, ← rel.length]; exact F.len _ _ _ _ q)
  rw [List.append_nil] at hb
  refine ⟨I1.kIn, wpAny_call (codeAny_mono (F.go X.A X.stack s1 H1 us vs Q hgd (hr.mono hk) I1.env0 hb rel q) fun r s2 hq => ?_)⟩
  rcases r with er | (v | _ | _ | _)
  · exact hq.elim
  · exact hq.elim
  · exact hq.elim
  · exact hq.elim
  · exact I1.after hq
/-! ### repr of data -/
def rReprD (K : PySem.W.Frag) : List V → Hp → VK → Prop := fun vs H Q => ∃ (a : Addr) (d : PyData), vs = [.ref a] ∧ Dt K H (.ref a) d ∧ d.showable = true ∧ shp 10 d ∧ d.shown.length ≤ sizeLine ∧ Q (.str d.shown) H
theorem call_reprD (hgd : X.A.guards = some []) (hu : X.A.units + 64 < cLine) : CallR X (.builtin "repr") (rReprD X.K) := by
  intro pins s σ H vs us Q I r h
  obtain ⟨a, d, rfl, hd, hs, hz, hl, q⟩ := h
  rw [Vals.ref1 r]
  obtain ⟨as, hr⟩ := Dp.reads I d (.ref a) (.ref a) hd.dp rfl
  exact repr_of_reads' hr hs (PyData.noDict_hsm (PyData.hasDict_of_canLay d hz.1)) hgd (by have := hz.2; omega) (fun _ _ e => e) (fun h' u tk hk => ⟨.str d.shown, H, I.kept hk, ⟨_, rfl⟩, q⟩) hl
end
end K9
set_option Elab.async false
set_option linter.all false
set_option maxRecDepth 100000
set_option maxHeartbeats 1000000
/-! What the readers answer can be shown, and shortly. -/
namespace K9
open PySem PySem.Spec PyProof.Rows L2 Evl
/-- data that can be shown in at most n signs -/
def Fit (n : Nat) (k : Nat) (d : PyData) : Prop := d.showable = true ∧ shp k d ∧ d.shown.length ≤ n
theorem Fit.mono {n m k j : Nat} {d : PyData} (h : Fit n k d) (h1 : n ≤ m) (h2 : k ≤ j) : Fit m j d := ⟨h.1, ⟨h.2.1.1, Nat.le_trans h.2.1.2 h2⟩, Nat.le_trans h.2.2 h1⟩
theorem fit_int {c : Nat} (k : Nat) (h : c ≤ 996) : Fit 3 k (Mi.dI c) := by
  refine ⟨?_, shp_dI _ _, ?_⟩
  · simp only [Mi.dI, PyData.showable]
    exact decide_eq_true (log_small (small_num h))
  · have e : (Mi.dI c).shown = Mi.S (TL.numL c) := by
      simp only [Mi.dI, PyData.shown]
      exact SX.num_S c
    rw [e, SX.S_len]
    exact Mi.numL_short h
theorem fit_str {w : Mi.Tx} (k : Nat) (h : Asc w) : Fit (10 * w.length + 2) k (Mi.dS w) := by
  refine ⟨by simp only [Mi.dS, PyData.showable], shp_dS _ h, ?_⟩
  have e : (Mi.dS w).shown = reprText (Mi.S w) := by simp only [Mi.dS, PyData.shown]
  rw [e]
  have q := StrLaws.reprText_len (Mi.S w) fun c hc => by
    have : c < 128 := h c hc
    omega
  rw [SX.S_len] at q
  exact q
theorem fit_all {n k : Nat} : ∀ {ds : List PyData}, (∀ d ∈ ds, Fit n k d) → PyData.showableAll ds = true ∧ piled (PyData.shownAll ds) ≤ ds.length * (n + 2)
  | [], _ => ⟨rfl, by simp [PyData.shownAll, piled]⟩
  | d :: ds, h => by
    have h1 := h d List.mem_cons_self
    have h2 := fit_all (ds := ds) fun e he => h e (List.mem_cons_of_mem _ he)
    refine ⟨?_, ?_⟩
    · show (PyData.showable d && PyData.showableAll ds) = true
      rw [h1.1, h2.1] <;> rfl
    · have e : piled (PyData.shownAll (d :: ds)) = (d.shown.length + 2) + piled (PyData.shownAll ds) := by
        simp [PyData.shownAll, piled]
      rw [e, List.length_cons, Nat.succ_mul]
      have h3 := h1.2.2
      have h4 := h2.2
      omega
theorem fit_tup {n k : Nat} {ds : List PyData} (h : ∀ d ∈ ds, Fit n k d) : Fit (ds.length * (n + 2) + 2) (k + 1) (.tuple ds) := by
  obtain ⟨h1, h2⟩ := fit_all h
  refine ⟨by simpa [PyData.showable] using h1, shp_tup fun d hd => (h d hd).2.1, ?_⟩
  have e : (PyData.tuple ds).shown = tupleText (PyData.shownAll ds) := by simp only [PyData.shown]
  rw [e]
  have := PySem.fmt_text (PyData.shownAll ds)
  omega
/-- the readers' parts -/
theorem fit_part {f : Nat} {z : Mi.Tx} {d : PyData} (hz : z.length ≤ 10000) (ha : Asc z) (h : Mi.part f z = some d) : Fit 100100 2 d := by
  unfold Mi.part at h
  split at h
  · split at h
    · cases h
      exact (fit_str 2 ha).mono (by omega) (Nat.le_refl _)
    · cases h
  · split at h
    · have q := sv_save (w := z)
      cases hs : Mi.save z with
      | none => rw [hs] at h; cases h
      | some p =>
        rw [hs] at h
        cases h
        split at q
        · obtain ⟨a, b, q1, q2⟩ := q
          rw [hs] at q2
          cases q2
          have hall := num_all (w := z) (s := 46)
          change ∀ o ∈ svNum z, _ at hall
          rw [q1] at hall
          have h1 := hall (some a) (by simp) a rfl
          have h2 := hall (some b) (by simp) b rfl
          exact (fit_tup (n := 3) (k := 0) (ds := [Mi.dI a, Mi.dI b]) (fun d hd => by
            simp only [List.mem_cons, List.not_mem_nil, or_false] at hd
            rcases hd with rfl | rfl
            · exact fit_int _ h1
            · exact fit_int _ h2)).mono (by show 2 * 5 + 2 ≤ _; decide) (by decide)
        · rw [hs] at q
          cases q
    · split at h
      · cases hs : Mi.cells z with
        | none => rw [hs] at h; cases h
        | some cs =>
          rw [hs] at h
          change (if cs.length ≤ 48 then some (Mi.dC cs) else none) = some d at h
          split at h
          · rename_i hl
            cases h
            have hc : ∀ c ∈ cs, c ≤ 996 := by
              unfold Mi.cells at hs
              split at hs
              · cases hs
                intro c hc
                cases hc
              · have q := some_cells (clNum z)
                change Mi.somes (clNum z) = some cs at hs
                split at q
                · rw [hs] at q
                  cases q
                · obtain ⟨cs', q1, q2⟩ := q
                  rw [hs] at q1
                  cases q1
                  intro c hc
                  exact num_all (w := z) (s := 44) (some c) (by
                    show some c ∈ clNum z
                    rw [q2]
                    exact List.mem_map_of_mem hc) c rfl
            exact (fit_tup (n := 3) (k := 0) (ds := cs.map Mi.dI) (fun d hd => by
              obtain ⟨c, hcm, rfl⟩ := List.mem_map.mp hd
              exact fit_int _ (hc c hcm))).mono (by rw [List.length_map]; omega) (by decide)
          · cases h
      · cases hs : Mi.num 5 (if f = 3 then 996 else 995) z with
        | none => rw [hs] at h; cases h
        | some n =>
          rw [hs] at h
          cases h
          have := Mi.num_le hs
          exact (fit_int 2 (by split at this <;> omega)).mono (by decide) (Nat.le_refl _)
theorem fit_go {ren : Bool} : ∀ {fs : List Nat} {ws : List Mi.Tx} {ds : List PyData}, (∀ z ∈ ws, z.length ≤ 10000 ∧ Asc z) → (∀ d ∈ ds, Fit 100100 2 d) → ds.length + fs.length ≤ 5 → match Mi.go ren fs ws ds with
    | .ok es => (∀ d ∈ es, Fit 100100 2 d) ∧ es.length ≤ 5
    | .error n => n ≤ 5
  | [], [], ds, _, hd, hl => ⟨hd, by simpa using hl⟩
  | [], _ :: _, ds, _, hd, hl => by
    show ds.length ≤ 5
    simpa using hl
  | f :: fs, [], ds, _, hd, hl => by
    show ds.length ≤ 5
    omega
  | f :: fs, z :: zs, ds, hw, hd, hl => by
    rw [go_cons]
    rw [List.length_cons] at hl
    cases hp : Mi.part f z with
    | none =>
      show ds.length ≤ 5
      omega
    | some d =>
      show match (if (ren && (ds.drop 1).any fun z => PyData.eqv z d) = true then Except.error ds.length else Mi.go ren fs zs (ds ++ [d])) with
        | .ok es => (∀ d ∈ es, Fit 100100 2 d) ∧ es.length ≤ 5
        | .error n => n ≤ 5
      by_cases c : (ren && (ds.drop 1).any fun z => PyData.eqv z d) = true
      · rw [if_pos c]
        show ds.length ≤ 5
        omega
      · rw [if_neg c]
        refine fit_go (fun y hy => hw y (List.mem_cons_of_mem _ hy)) (fun e he => ?_) (by rw [List.length_append, List.length_singleton]; omega)
        rcases List.mem_append.mp he with he | he
        · exact hd e he
        · rw [List.mem_singleton.mp he]
          obtain ⟨h1, h2⟩ := hw z List.mem_cons_self
          exact fit_part h1 h2 hp
theorem fit_read {b : Bool} {z : Mi.Tx} (hz : z.length ≤ 10000) (ha : Asc z) : Fit 2000000 10 (Mi.out (Mi.read b z)) := by
  have spot : ∀ n : Nat, n ≤ 5 → Fit 2000000 10 (Mi.out (.error n)) := fun n hn => (fit_tup (n := 42) (k := 0) (ds := [Mi.dS [115, 112, 111, 116], Mi.dI n]) (fun d hd => by
    simp only [List.mem_cons, List.not_mem_nil, or_false] at hd
    rcases hd with rfl | rfl
    · exact fit_str _ (asc_of rfl)
    · exact (fit_int 0 (by omega)).mono (by decide) (Nat.le_refl _))).mono (by show 2 * 44 + 2 ≤ _; decide) (by decide)
  obtain ⟨w0, wr, hsp⟩ : ∃ w0 wr, TL.spl [32] 0 [] z = w0 :: wr := by
    cases e : TL.spl [32] 0 [] z with
    | nil => exact absurd e (spl_ne _ _)
    | cons a r => exact ⟨a, r, rfl⟩
  rw [read_eq b z w0 wr hsp]
  have hw : ∀ q ∈ w0 :: wr, q.length ≤ 10000 ∧ Asc q := fun q hq => by
    rw [← hsp] at hq
    exact ⟨Nat.le_trans (spl_part hq) hz, ha.spl hq⟩
  by_cases c : [] ∈ wr
  · rw [if_pos c]
    exact spot 0 (by decide)
  · rw [if_neg c]
    cases hl : lk w0 (esL b) with
    | none => exact spot 0 (by decide)
    | some fs =>
      show Fit 2000000 10 (Mi.out (Mi.go (decide (w0 = Mi.wRename)) fs wr [Mi.dS w0]))
      have hf := (forms_small ((forms_lk b w0).trans hl)).1
      have q := fit_go (ren := decide (w0 = Mi.wRename)) (fs := fs) (ws := wr) (ds := [Mi.dS w0]) (fun y hy => hw y (List.mem_cons_of_mem _ hy)) (fun d hd => by
        rw [List.mem_singleton.mp hd]
        obtain ⟨h1, h2⟩ := hw w0 List.mem_cons_self
        exact (fit_str 2 h2).mono (by omega) (Nat.le_refl _)) (by rw [List.length_singleton]; omega)
      cases hg : Mi.go (decide (w0 = Mi.wRename)) fs wr [Mi.dS w0] with
      | error n =>
        rw [hg] at q
        exact spot n q
      | ok es =>
        rw [hg] at q
        obtain ⟨q1, q2⟩ := q
        have t1 := fit_tup q1
        obtain ⟨n0, hn0⟩ : ∃ n0 : Nat, n0 = 600000 := ⟨_, rfl⟩
        have t2 : Fit (2 * (n0 + 2) + 2) 4 (.tuple [Mi.dS [116, 111, 108, 100], .tuple es]) := fit_tup (n := n0) (k := 3) (ds := [Mi.dS [116, 111, 108, 100], .tuple es]) fun d hd => by
          simp only [List.mem_cons, List.not_mem_nil, or_false] at hd
          rcases hd with rfl | rfl
          · have ha : Asc ([116, 111, 108, 100] : Mi.Tx) := asc_of rfl
            exact (fit_str 3 ha).mono (by simp only [List.length_cons, List.length_nil]; omega) (Nat.le_refl _)
          · have h5 : es.length * (100100 + 2) ≤ 5 * (100100 + 2) := Nat.mul_le_mul_right _ q2
            have h6 : es.length * (100100 + 2) + 2 ≤ n0 := Nat.le_trans (Nat.add_le_add_right h5 2) (by rw [hn0]; exact Nat.le_of_ble_eq_true rfl)
            exact t1.mono h6 (by decide)
        exact t2.mono (by omega) (by decide)
end K9
set_option Elab.async false
set_option linter.all false
set_option maxRecDepth 100000
set_option maxHeartbeats 1000000
namespace K9
open PySem PySem.Spec PyProof.Rows L2 Evl
open PySem.PeX (PeTxt)
section
variable {P : Program} {w : World} {K : PySem.W.Frag} {mg : Str → Option Value} {base : Heap}
theorem calG_of {x : Str} {st : Stmt} {N ps : List Str} {k : Nat} {sp : Sp} (D : DefOk K mg x st) (S : FnScope N ps (defScope st))
    (bnd : ∀ (kV doc pm : Value) (an : Option Addr) (cdv ct : Value) (us : List Value), us.length = ps.length → bindArgs (PySem.W.fnOf x x (defArgs st) (defBody st) (defScope st) .none kV doc pm an cdv ct) ⟨us, []⟩ = pure (ps.zip us))
    (len : ∀ vs H Q E, sp vs H Q E → vs.length = ps.length)
    (hbody : ∀ (f : Addr) (cdv : Value) (A : Around) (fr : List Env) (s : Shared) (H : Hp) (vs : List V) (Q : VK), A.guards = some [] → Room k (A.deeper (envOfC x (defScope st) s.heap.objs.size f cdv)) → sp vs H Q C8.E0 →
      ∃ t, PSs (cxOf C8.CX0 P w K mg base N x (defScope st) f cdv A fr s H C8.E0).nox (defBody st) t ∧ t { nx := fun _ H' => Q .non H', rt := Q } (start N vs) H) : CalG P w K mg base (k + 1) x sp := by
  obtain ⟨f, fd, F, hm⟩ := D.ex
  exact ⟨f, fd, ps, fnG_of F S len fun cdv A fr s H vs Q hg hr h => hbody f cdv A fr s H vs Q hg hr h, hm, F.kp, F.bindsN bnd⟩
/-! ### lengths and signs of what is written -/
theorem num_asc (n : Nat) : Asc (TL.numL n) := fun c hc => by
  have := TL.numL_digits n c hc
  omega
theorem cellsW_asc (cs : List Nat) : Asc (Mi.cellsW cs) := by
  unfold Mi.cellsW
  by_cases e : cs = []
  · rw [if_pos e]
    exact asc_of rfl
  · rw [if_neg e]
    refine joinL_asc (by decide) fun p hp => ?_
    obtain ⟨n, _, rfl⟩ := List.mem_map.mp hp
    exact num_asc n
theorem saveW_asc (a b : Nat) : Asc (Mi.saveW a b) := (num_asc a).app fun c hc => by
  rcases List.mem_cons.mp hc with rfl | hc
  · decide
  · exact num_asc b c hc
theorem words_text {ws : List Mi.Tx} (h : ∀ p ∈ ws, Asc p) {n : Nat} (hn : (ws.map List.length).sum + ws.length ≤ n) : Asc (TL.joinL [32] ws) ∧ (TL.joinL [32] ws).length ≤ n := ⟨joinL_asc (by decide) h, Nat.le_trans (joinL_len ws) hn⟩
theorem dd_text {d : Mi.Dd} (h : d.ok) : Asc d.text ∧ d.text.length ≤ 250 := by
  cases d with
  | put n cs =>
    have h1 := nm_len h.1
    have h2 := cellsW_len h.2
    refine words_text (fun p hp => ?_) (by simp [Mi.Dd.words]; omega)
    simp only [Mi.Dd.words, List.mem_cons, List.not_mem_nil, or_false] at hp
    rcases hp with rfl | rfl | rfl
    · exact asc_of rfl
    · exact nm_asc h.1
    · exact cellsW_asc _
  | patch n a b cs =>
    obtain ⟨h0, ha, hb, hc⟩ := h
    have h1 := nm_len h0
    have h2 := cellsW_len hc
    have h3 := Mi.numL_short ha
    have h4 := Mi.numL_short hb
    refine words_text (fun p hp => ?_) (by simp [Mi.Dd.words]; omega)
    simp only [Mi.Dd.words, List.mem_cons, List.not_mem_nil, or_false] at hp
    rcases hp with rfl | rfl | rfl | rfl | rfl
    · exact asc_of rfl
    · exact nm_asc h0
    · exact num_asc _
    · exact num_asc _
    · exact cellsW_asc _
  | drop n =>
    have h1 := nm_len h
    refine words_text (fun p hp => ?_) (by simp [Mi.Dd.words]; omega)
    simp only [Mi.Dd.words, List.mem_cons, List.not_mem_nil, or_false] at hp
    rcases hp with rfl | rfl
    · exact asc_of rfl
    · exact nm_asc h
  | rename n m =>
    have h1 := nm_len h.1
    have h2 := nm_len h.2.1
    refine words_text (fun p hp => ?_) (by simp [Mi.Dd.words]; omega)
    simp only [Mi.Dd.words, List.mem_cons, List.not_mem_nil, or_false] at hp
    rcases hp with rfl | rfl | rfl
    · exact asc_of rfl
    · exact nm_asc h.1
    · exact nm_asc h.2.1
theorem saveW_len {a b : Nat} (h : Mi.saveOk a b) : (Mi.saveW a b).length ≤ 7 := by
  have h1 := Mi.numL_short h.1.2
  have h2 := Mi.numL_short h.2.2
  unfold Mi.saveW
  rw [List.length_append, List.length_cons]
  omega
theorem qn_text {q : Mi.Qn} (h : q.ok) : Asc q.text ∧ q.text.length ≤ 250 := by
  cases q with
  | there a b n =>
    have h1 := nm_len h.2
    have h2 := saveW_len h.1
    refine words_text (fun p hp => ?_) (by simp [Mi.Qn.words]; omega)
    simp only [Mi.Qn.words, List.mem_cons, List.not_mem_nil, or_false] at hp
    rcases hp with rfl | rfl | rfl
    · exact asc_of rfl
    · exact saveW_asc _ _
    · exact nm_asc h.2
  | length a b n =>
    have h1 := nm_len h.2
    have h2 := saveW_len h.1
    refine words_text (fun p hp => ?_) (by simp [Mi.Qn.words]; omega)
    simp only [Mi.Qn.words, List.mem_cons, List.not_mem_nil, or_false] at hp
    rcases hp with rfl | rfl | rfl
    · exact asc_of rfl
    · exact saveW_asc _ _
    · exact nm_asc h.2
  | cell a b n t =>
    obtain ⟨h0, hn, ht⟩ := h
    have h1 := nm_len hn
    have h2 := saveW_len h0
    have h3 := Mi.numL_short (n := t) (by omega)
    refine words_text (fun p hp => ?_) (by simp [Mi.Qn.words]; omega)
    simp only [Mi.Qn.words, List.mem_cons, List.not_mem_nil, or_false] at hp
    rcases hp with rfl | rfl | rfl | rfl
    · exact asc_of rfl
    · exact saveW_asc _ _
    · exact nm_asc hn
    · exact num_asc _
theorem ans_asc {q : Mi.Qn} {v : V} {t : Mi.Tx} (h : AnsOk q v t) : Asc t := by
  have z : (∃ o : Option Nat, v = oV o ∧ (∀ n, o = some n → n ≤ 996) ∧ t = noneT o) → Asc t := fun ⟨o, _, _, e⟩ => by
    subst e
    cases o with
    | none => exact asc_of rfl
    | some n => exact num_asc n
  cases q with
  | there _ _ _ =>
    obtain ⟨b, _, rfl⟩ := h
    cases b <;> exact asc_of rfl
  | length _ _ _ => exact z h
  | cell _ _ _ _ => exact z h
/-! ### the tests -/
section
variable {σ : L2.St} {H : Hp} {ta tb te : TE} {C : Addr}
theorem strs_eqv {ws : List Mi.Tx} (h : ∀ p ∈ ws, Asc p) : PyData.eqv (.list (ws.map Mi.dS)) (.list (ws.map Mi.dS)) = true := SeqAt.eqv_refl _ (by
  have q := sh_strs h
  unfold SeqAt.shaped at q
  exact (Bool.and_eq_true_iff.mp q).1)
theorem rv_neStrs {ws : List Mi.Tx} {p q : Addr} (h : ∀ t ∈ ws, Asc t) (hp : SqL K H p (ws.map vS)) (hq : SqL K H q (ws.map vS)) : RV (rNeD K) (.ref p) (.ref q) H (.bl false) := rv_val fun H1 e Q k => ⟨_, _, dp_strs (ex_l e hp), dp_strs (ex_l e hq), sh_strs h, sh_strs h, by
  rw [strs_eqv h]
  exact k⟩
theorem ev_neSame {d : PyData} (ha : ED K ta σ H d) (hb : ED K tb σ H d) (hd : shp 10 d) : Ev (tOp (rNeD K) ta tb) σ H (.bl false) := fun H1 e Q q =>
  ha H1 e _ fun x H2 e2 hx => hb H2 (e.trans e2) _ fun y H3 e3 hy => ⟨d, d, (hx.ex e3).dp, hy.dp, hd.ok (by decide), hd.ok (by decide), by
    rw [SeqAt.eqv_refl d hd.1]
    exact q H3 (e2.trans e3)⟩
theorem ed_rd {b : Bool} {z : Mi.Tx} {ds : List PyData} (h : Ev te σ H (vS z)) (hz : z.length ≤ 10000) (hr : Mi.read b z = .ok ds) : ED K (tCall (SpRd K C b) [] (fun _ _ _ => False) (tCons te tNil)) σ H (.tuple ds) := fun H1 e Q q =>
  h H1 e _ fun H2 e2 => ⟨z, rfl, hz, by
    rw [hr]
    exact fun x H3 e3 hx => q x H3 (e2.trans e3) hx⟩
end
section
variable {σ : L2.St} {H : Hp} {te tf : TE} {ta : TA} {va : Addr} {D : Ends} {tz : TS} {E : XK}
theorem q_pairV {i j : Nat} {P R : V → Hp → Prop} (h : DV va te σ H P) (h2 : ∀ x H1, Vx va H H1 → P x H1 → DV va tf σ H1 R) (k : ∀ x y H1 H2 H3, Vx va H H1 → P x H1 → Vx va H1 H2 → R y H2 → Ex H2 H3 → tz D ((σ.set i (some x)).set j (some y)) H3) :
    tSeq (tAsg (tTup (tCons te (tCons tf tNil))) (gTup K 2 (gCons (gName i) (gCons (gName j) gNil)))) tz D σ H :=
  h _ fun x H1 e1 hx => h2 x H1 e1 hx _ fun y H2 e2 hy => ⟨by show 2 ≤ sizeLine; decide, fun p hp => ⟨p, [x, y], rfl, st_of upd_same, rfl, x, [y], rfl, y, [], rfl, rfl, k x y H1 H2 _ e1 hx e2 hy (Ex.new hp)⟩⟩
theorem dv_bent {t : Mi.Tx} {n : Nat} (hv : Vt va H) (h : EvA ta σ H [.ref va, vS t]) (ht : t.length ≤ n) (hn : n ≤ 4000) (ha : Asc t) : DV va (tCall SpBent [] E ta) σ H fun x _ => ∃ t' : Mi.Tx, x = vS t' ∧ Asc t' ∧ t'.length ≤ 2 * n + 10 := fun Q q =>
  h H (Ex.refl H) _ fun H1 e1 => ⟨va, t, rfl, hv.ex e1, by omega, ha, fun t' H2 e2 a2 l2 => q _ H2 ((Vx.of_ex hv e1).trans e2) ⟨t', rfl, a2, by omega⟩⟩
theorem ev_repr {ds : List PyData} (h : ED K te σ H (.tuple ds)) (hf : Fit 2000000 10 (.tuple ds)) : Ev (tCB (rReprD K) (tCons te tNil)) σ H (.str (PyData.tuple ds).shown) := fun H1 e Q q =>
  h H1 e _ fun x H2 e2 hx => by
    obtain ⟨a, xs, rfl, h1, h2⟩ := Dt.tup_inv hx
    exact ⟨a, .tuple ds, rfl, hx, hf.1, hf.2.1, Nat.le_trans hf.2.2 (by decide), q H2 e2⟩
/-- what the answers are drawn from -/
def AnsL (q : Mi.Qn) (va : Addr) (x : V) (H : Hp) : Prop := ∃ (p : Addr) (l : List (V × Mi.Tx)), x = .ref p ∧ H p = some (.lst (l.map Prod.fst)) ∧ p ≠ va ∧ l.length ≤ 4 ∧ ∀ c ∈ l, AnsOk q c.1 c.2
theorem new_ne {p : Addr} (hv : Vt va H) (hp : H p = none) : p ≠ va := fun z => by
  obtain ⟨a, b, c, h⟩ := hv
  rw [z, h] at hp
  cases hp
theorem some_run {y : V} {q : Mi.Qn} (hv : Vt va H) (hy : Dt K H y (.tuple q.py)) (h0 : σ[0]? = some (some (.ref va))) (h5 : σ[5]? = some (some y)) :
    DV va (tIf (tTest (tOp rEq (tOp (rIxT K) (tVar 5) (tC (.int 0))) (tC (.str "there")))) (tLst (tCons (tC (.bl true)) (tCons (tC (.bl false)) tNil))) (tLst (tCons (tC .non) (tCons (tC (.int 0)) (tCons (tC (.int 996)) (tCons (tCall SpDraw [] E (tCons (tVar 0) (tCons (tC (.int 997)) tNil))) tNil)))))) σ H (AnsL q va) := by
  obtain ⟨a, xs, rfl, hs, hall⟩ := Dt.tup_inv hy
  intro Q k
  have other : ∀ {u : Mi.Tx}, xs[0]? = some (vS u) → decide (u = Mi.wThere) = false → (∀ v t, (∃ o : Option Nat, v = oV o ∧ (∀ n, o = some n → n ≤ 996) ∧ t = noneT o) → AnsOk q v t) → tIf (tTest (tOp rEq (tOp (rIxT K) (tVar 5) (tC (.int 0))) (tC (.str "there")))) (tLst (tCons (tC (.bl true)) (tCons (tC (.bl false)) tNil))) (tLst (tCons (tC .non) (tCons (tC (.int 0)) (tCons (tC (.int 996)) (tCons (tCall SpDraw [] E (tCons (tVar 0) (tCons (tC (.int 997)) tNil))) tNil))))) σ H Q := fun {u} hx0 hu ho => by
    refine (et_is (b := false) (et_op (ev_ixT (ev_var h5) hs (atI_nat (j := 0) hx0)) ev_c (rv_eqS (b := Mi.wThere))) hu : EvT (tTest (tOp rEq (tOp (rIxT K) (tVar 5) (tC (.int 0))) (tC (.str "there")))) σ H false) H (Ex.refl H) _ fun H1 e1 => iteF ?_
    refine dv_drawI (n := 997) (hv.ex e1) (ev_var h0) (by decide) (by decide) _ fun x H2 e2 hx => ⟨by show 4 ≤ sizeLine; decide, fun p hp => ?_⟩
    obtain ⟨r, rfl, hr⟩ := hx
    refine k _ _ (((Vx.of_ex hv e1).trans e2).trans (.of_ex e2.2 (Ex.new hp))) ⟨p, [none, some 0, some 996, some r].map fun o => (oV o, noneT o), rfl, upd_same, new_ne e2.2 hp, Nat.le_refl _, fun c hc => ?_⟩
    obtain ⟨o, hm, rfl⟩ := List.mem_map.mp hc
    refine ho _ _ ⟨o, rfl, fun n hn => ?_, rfl⟩
    simp only [List.mem_cons, List.not_mem_nil, or_false] at hm
    rcases hm with rfl | rfl | rfl | rfl
    · cases hn
    · cases hn
      decide
    · cases hn
      decide
    · cases hn
      omega
  cases q with
  | there a' b' n =>
    obtain ⟨v, hx0, hv0⟩ := hall.get (i := 0) rfl
    obtain rfl := Dt.str_inv hv0
    refine (et_is (b := true) (et_op (ev_ixT (ev_var h5) hs (atI_nat (j := 0) hx0)) ev_c (rv_eqS (a := Mi.wThere) (b := Mi.wThere))) rfl : EvT (tTest (tOp rEq (tOp (rIxT K) (tVar 5) (tC (.int 0))) (tC (.str "there")))) σ H true) H (Ex.refl H) _ fun H1 e1 => iteT ?_
    refine ⟨by show 2 ≤ sizeLine; decide, fun p hp => k _ _ (.of_ex hv (e1.trans (Ex.new hp))) ⟨p, [true, false].map fun b => (.bl b, if b = true then [121, 101, 115] else [110, 111]), rfl, upd_same, new_ne (hv.ex e1) hp, by decide, fun c hc => ?_⟩⟩
    obtain ⟨b, _, rfl⟩ := List.mem_map.mp hc
    exact ⟨b, rfl, rfl⟩
  | length a' b' n =>
    obtain ⟨v, hx0, hv0⟩ := hall.get (i := 0) rfl
    obtain rfl := Dt.str_inv hv0
    exact other (u := Mi.wLength) hx0 (by decide) fun _ _ h => h
  | cell a' b' n t =>
    obtain ⟨v, hx0, hv0⟩ := hall.get (i := 0) rfl
    obtain rfl := Dt.str_inv hv0
    exact other (u := Mi.wCell) hx0 (by decide) fun _ _ h => h
end
def SpRight : Sp := fun vs H Q _ => ∃ va : Addr, vs = [.ref va] ∧ Vt va H ∧ ∀ H', Vx va H H' → Q (.bl true) H'
abbrev N__law_right : List Str := ["_law_vat_here", "_law_texts", "_law_some", "_law_turn", "_law_deed", "_law_question", "_law_near", "_law_is_deed", "_law_one"]
theorem S__law_right : FnScope N__law_right ["_law_vat_here"] (defScope (top 82)) := ⟨rfl, rfl, rfl, by decide +kernel, rfl, by decide +kernel, by decide +kernel⟩
theorem B__law_right (kV doc pm : Value) (an : Option Addr) (cdv ct : Value) (us : List Value) (hl : us.length = (["_law_vat_here"] : List Str).length) : bindArgs (PySem.W.fnOf "_law_right" "_law_right" (defArgs (top 82)) (defBody (top 82)) (defScope (top 82)) .none kV doc pm an cdv ct) ⟨us, []⟩ = pure ((["_law_vat_here"] : List Str).zip us) := match us, hl with | [_], _ => rfl
variable {C fI : Addr}
theorem c_law_right (D : DefOk K mg "_law_right" (top 82)) (G : Gb mg) (c__law_any_deed : C8.Cal P w K mg base 4 "_law_any_deed" (SpAnyDeed K) []) (c__law_any_question : C8.Cal P w K mg base 3 "_law_any_question" (SpAnyQn K) [])
    (c__law_deed_text : C8.Cal P w K mg base 2 "_law_deed_text" (Spv (p_deed_text (K := K))) []) (c__law_question_text : C8.Cal P w K mg base 2 "_law_question_text" (Spv (p_question_text (K := K))) [])
    (c_deed_text : C8.Cal P w K mg base 7 "deed_text" (Spv (p_deed_text (K := K))) []) (c_question_text : C8.Cal P w K mg base 7 "question_text" (Spv (p_question_text (K := K))) [])
    (c_read_deed : CalX P w K mg base 7 "read_deed" (SpRd K C true)) (c_read_question : CalX P w K mg base 7 "read_question" (SpRd K C false)) (c__law_draw : C8.Cal P w K mg base 1 "_law_draw" SpDraw [])
    (c_answer_text : C8.Cal P w K mg base 6 "answer_text" (Spv (p_answer_text (K := K))) []) (c__law_answer_text : C8.Cal P w K mg base 1 "_law_answer_text" (Spv (p_law_answer_text (K := K))) [])
    (c__law_bent_text : C8.Cal P w K mg base 3 "_law_bent_text" SpBent []) (c__law_read : C8.Cal P w K mg base 8 "_law_read" (Spd K p_law_read) []) (c__law_read_words : C8.Cal P w K mg base 4 "_law_read_words" (Spd K p_law_read_words) []) : CalG P w K mg base 9 "_law_right" SpRight :=
  calG_of D S__law_right B__law_right (fun vs H Q E h => by obtain ⟨va, rfl, _⟩ := h; rfl) fun f cdv A fr s H vs Q hgd hr h => by
  refine ⟨_, (pss_cons (ps_asg (pe_tup (pa_cons (C8.pe_c c__law_any_deed hr (by decide) (by rfl) (pa_cons (pv 0) pa_nil)) (pa_cons (C8.pe_c c__law_any_question hr (by decide) (by rfl) (pa_cons (pv 0) pa_nil)) pa_nil))) (pg_tup rfl (pgs_cons (pg_name (i := 4) S__law_right.nd rfl (by first | exact Or.inl rfl | exact Or.inr rfl)) (pgs_cons (pg_name (i := 5) S__law_right.nd rfl (by first | exact Or.inl rfl | exact Or.inr rfl)) pgs_nil))))
  (pss_cons (ps_set (i := 1) S__law_right.nd rfl (by first | exact Or.inl rfl | exact Or.inr rfl) (pe_lst (pa_cons (C8.pe_c c__law_deed_text hr (by decide) (by rfl) (pa_cons (pv 4) pa_nil)) (pa_cons (C8.pe_c c__law_question_text hr (by decide) (by rfl) (pa_cons (pv 5) pa_nil)) pa_nil))))
  (pss_cons (ps_if ((pw_or (pt_cmpR (op_neD hr.units) (pe_lst (pa_cons (C8.pe_c c_deed_text hr (by decide) (by rfl) (pa_cons (pv 4) pa_nil)) (pa_cons (C8.pe_c c_question_text hr (by decide) (by rfl) (pa_cons (pv 5) pa_nil)) pa_nil))) (pv 1) (nomark _)) (pw_or (pt_cmpR (op_neD hr.units) (pe_cX c_read_deed hr (by decide) (by rfl) takes0 (fun _ _ _ _ h => h) (pa_cons (pe_ix ix_list (pv 1) pe_int (fun _ _ => rfl)) pa_nil)) (pv 4) (nomark _)) (pw_or1 (pt_cmpR (op_neD hr.units) (pe_cX c_read_question hr (by decide) (by rfl) takes0 (fun _ _ _ _ h => h) (pa_cons (pe_ix ix_list (pv 1) pe_int (fun _ _ => rfl)) pa_nil)) (pv 5) (nomark _)))))).pt (pss_one (ps_ret pe_bl)) pss_nil)
  (pss_cons (ps_set (i := 2) S__law_right.nd rfl (by first | exact Or.inl rfl | exact Or.inr rfl) (pe_ifExp (pt_cmpR op_eq (pe_ix ix_tup (pv 5) pe_int (fun _ _ => rfl)) pe_str (nomark _)) (pe_lst (pa_cons pe_bl (pa_cons pe_bl pa_nil))) (pe_lst (pa_cons pe_non (pa_cons pe_int (pa_cons pe_int (pa_cons (C8.pe_c c__law_draw hr (by decide) (by rfl) (pa_cons (pv 0) (pa_cons pe_int pa_nil))) pa_nil)))))))
  (pss_cons (ps_if (pt_cmpR (op_neD hr.units) (pe_lc (own := [("_law_one", 8)]) (g := gName 8) (tt := tYes) rfl S__law_right.nd (pi_list (pv 2)) (blkOk_by (N := N__law_right) (sc := defScope (top 82)) (by decide +kernel)) (fun _ _ _ _ _ => pg_name (i := 8) S__law_right.nd rfl (Or.inl rfl)) (fun _ _ _ _ _ => pts_nil) (fun _ _ _ _ _ => (C8.pe_c c_answer_text hr (by decide) (by rfl) (pa_cons (pv 5) (pa_cons (pv 8) pa_nil))))) (pe_lc (own := [("_law_one", 8)]) (g := gName 8) (tt := tYes) rfl S__law_right.nd (pi_list (pv 2)) (blkOk_by (N := N__law_right) (sc := defScope (top 82)) (by decide +kernel)) (fun _ _ _ _ _ => pg_name (i := 8) S__law_right.nd rfl (Or.inl rfl)) (fun _ _ _ _ _ => pts_nil) (fun _ _ _ _ _ => (C8.pe_c c__law_answer_text hr (by decide) (by rfl) (pa_cons (pv 5) (pa_cons (pv 8) pa_nil))))) (nomark _)) (pss_one (ps_ret pe_bl)) pss_nil)
  (pss_cons (ps_for PassesOwn.never rfl (pi_range1 (by rfl) G.f_range (pa_cons pe_int pa_nil)) (pg_name (i := 3) S__law_right.nd rfl (by first | exact Or.inl rfl | exact Or.inr rfl)) (pss_cons (ps_set (i := 6) S__law_right.nd rfl (by first | exact Or.inl rfl | exact Or.inr rfl) (C8.pe_c c__law_bent_text hr (by decide) (by rfl) (pa_cons (pv 0) (pa_cons (pe_ix ix_list (pv 1) (pe_callTy call_int1 (by rfl) G.f_int boot_int (pa_cons (pe_op op_mod (pv 3) pe_int) pa_nil)) (fun _ _ => rfl)) pa_nil))))
    (pss_cons (ps_set (i := 6) S__law_right.nd rfl (by first | exact Or.inl rfl | exact Or.inr rfl) (pe_ifExp (pt_cmpR op_eq (C8.pe_c c__law_draw hr (by decide) (by rfl) (pa_cons (pv 0) (pa_cons pe_int pa_nil))) pe_int (nomark _)) (C8.pe_c c__law_bent_text hr (by decide) (by rfl) (pa_cons (pv 0) (pa_cons (pv 6) pa_nil))) (pv 6)))
    (pss_one (ps_for PassesOwn.never rfl (pi_tup (pe_tup (pa_cons pe_bl (pa_cons pe_bl pa_nil)))) (pg_name (i := 7) S__law_right.nd rfl (by first | exact Or.inl rfl | exact Or.inr rfl)) (pss_one (ps_if (pt_cmpR op_ne (pe_callB (call_reprD hgd hr.units) (by rfl) G.f_repr boot_repr (pa_cons (C8.pe_c c__law_read hr (by decide) (by rfl) (pa_cons (pv 6) (pa_cons (pv 7) pa_nil))) pa_nil)) (pe_callB (call_reprD hgd hr.units) (by rfl) G.f_repr boot_repr (pa_cons (C8.pe_c c__law_read_words hr (by decide) (by rfl) (pa_cons (pv 6) (pa_cons (pv 7) pa_nil))) pa_nil)) (nomark _)) (pss_one (ps_ret pe_bl)) pss_nil)))))))
  (pss_one (ps_ret pe_bl)))))))), ?_⟩
  obtain ⟨va, rfl, hv, k⟩ := h
  refine q_pairV (va := va) (P := fun x H' => ∃ d : Mi.Dd, d.ok ∧ Dt K H' x (.tuple d.py)) (R := fun x H' => ∃ q : Mi.Qn, q.ok ∧ Dt K H' x (.tuple q.py)) (fun Q2 q2 => ⟨_, rfl, va, rfl, hv, fun d x H' e ok hd => q2 x H' e ⟨d, ok, hd⟩⟩) (fun x H1 e1 _ => fun Q2 q2 => ⟨_, rfl, va, rfl, e1.2, fun d x H' e ok hd => q2 x H' e ⟨d, ok, hd⟩⟩) fun x y H1 H2 H3 e1 hx e2 hy e3 => ?_
  obtain ⟨d, dok, hd⟩ := hx
  obtain ⟨q, qok, hq⟩ := hy
  have e12 := e1.trans e2
  have e03 : Vx va H H3 := e12.trans (.of_ex e12.2 e3)
  have hd3 := (e2.dt e1.2 hd).ex e3
  have hq3 := hq.ex e3
  obtain ⟨da, dl⟩ := dd_text dok
  obtain ⟨qa, ql⟩ := qn_text qok
  have hasc : ∀ p ∈ [d.text, q.text], Asc p := fun p hp => by
    simp only [List.mem_cons, List.not_mem_nil, or_false] at hp
    rcases hp with rfl | rfl
    · exact da
    · exact qa
  refine q_asgL (xs := [d.text, q.text].map vS) (el_lst (ea2 (ev_cal (ea1 (ev_var rfl)) fun H4 e4 => ⟨x, d, rfl, hd3.ex e4, dok, rfl⟩) (ev_cal (ea1 (ev_var rfl)) fun H4 e4 => ⟨y, q, rfl, hq3.ex e4, qok, rfl⟩)) (by show 2 ≤ 100000; decide)) fun pt H4 hp4 e4 h4 => ?_
  have hne : pt ≠ va := new_ne e03.2 hp4
  have e04 := e03.trans (.of_ex e03.2 e4)
  have hd4 := hd3.ex e4
  have hq4 := hq3.ex e4
  refine q_when (b := false) (et_is (et_or (a := false) (b := false) (et_test (ev_opL1 (el_lst (ea2 (ev_cal (ea1 (ev_var rfl)) fun H5 e5 => ⟨x, d, rfl, hd4.ex e5, dok, rfl⟩) (ev_cal (ea1 (ev_var rfl)) fun H5 e5 => ⟨y, q, rfl, hq4.ex e5, qok, rfl⟩)) (by show 2 ≤ 100000; decide)) (fun _ _ => ev_var rfl) fun p H5 hp e5 => rv_neStrs hasc (sq_of hp) (sq_of (e5 pt _ h4)))) fun _ =>
    et_or (a := false) (b := false) (et_test (ev_neSame (ed_rd (z := d.text) (ev_op (ev_var rfl) ev_c (rv_ixL (sq_of h4) rfl)) (by omega) (Mi.read_deed dok)) (ed_var rfl hd4) ⟨(dd_shp dok).1, Nat.le_trans (dd_shp dok).2 (by decide)⟩)) fun _ =>
      et_test (ev_neSame (ed_rd (z := q.text) (ev_op (ev_var rfl) ev_c (rv_ixL (sq_of h4) rfl)) (by omega) (Mi.read_question qok)) (ed_var rfl hq4) ⟨(qn_shp qok).1, Nat.le_trans (qn_shp qok).2 (by decide)⟩)) rfl) (fun h => nomatch h) fun _ H5 e5 => ?_
  have e05 := e04.trans (.of_ex e04.2 e5)
  have h5 := e5 pt _ h4
  have hq5 := hq4.ex e5
  refine q_asgV (some_run e05.2 hq5 rfl rfl) fun z H6 e6 hz => ?_
  obtain ⟨ps, l, rfl, h6, hps, hll, hans⟩ := hz
  have e06 := e05.trans e6
  have h6t := e6.1 pt _ hne h5
  have hq6 := e6.dt e05.2 hq5
  have haa : ∀ t ∈ l.map Prod.snd, Asc t := fun t ht => by
    obtain ⟨c, hc, rfl⟩ := List.mem_map.mp ht
    exact ans_asc (hans c hc)
  refine q_when (b := false) (et_test (ev_opLL (xs := (l.map Prod.snd).map vS) (ys := (l.map Prod.snd).map vS)
    (el_eq (el_seq (l := l) (val := Prod.fst) (fun _ => true) (fun c => vS c.2) (ev_var rfl) (sq_of h6) (by omega) (fun _ => rfl) (fun _ _ _ _ => et_yes) fun c hc _ H7 e7 => ev_cal (ea2 (ev_var rfl) (ev_var rfl)) fun H8 e8 => ⟨y, c.1, q, c.2, rfl, hq6.ex (e7.trans e8), qok, hans c hc, rfl⟩) made_map)
    (el_eq (el_seq (l := l) (val := Prod.fst) (fun _ => true) (fun c => vS c.2) (ev_var rfl) (sq_of h6) (by omega) (fun _ => rfl) (fun _ _ _ _ => et_yes) fun c hc _ H7 e7 => ev_cal (ea2 (ev_var rfl) (ev_var rfl)) fun H8 e8 => ⟨y, c.1, q, c.2, rfl, hq6.ex (e7.trans e8), hans c hc, rfl⟩) made_map)
    fun p p2 H7 h1 h2 e7 => rv_neStrs haa (sq_of h1) (sq_of h2))) (fun h => nomatch h) fun _ H7 e7 => ?_
  have e07 := e06.trans (.of_ex e06.2 e7)
  have h7 := e7 pt _ h6t
  refine q_forR1 (ea1 ev_c) (by decide) (fun i σ' H' => Vx va H H' ∧ H' pt = some (.lst ([d.text, q.text].map vS)) ∧ ∃ a1 a2 a3 a4 a5, σ' = [some (.ref va), some (.ref pt), a1, a2, some x, some y, a3, a4, a5]) (fun H8 e8 => ⟨e07.trans (.of_ex e07.2 e8), e8 pt _ h7, _, _, _, _, _, rfl⟩) ?_ ?_
  · rintro i σ' H8 hi ⟨e8, h8, a1, a2, a3, a4, a5, rfl⟩
    obtain ⟨t, ht, ta, tl⟩ : ∃ t : Mi.Tx, atI ([d.text, q.text].map vS) ((i : Int) % 2) = some (vS t) ∧ Asc t ∧ t.length ≤ 250 := by
      rcases (by omega : (i : Int) % 2 = 0 ∨ (i : Int) % 2 = 1) with h | h
      · rw [h]
        exact ⟨d.text, rfl, da, dl⟩
      · rw [h]
        exact ⟨q.text, rfl, qa, ql⟩
    refine q_asgV (dv_bent (n := 250) e8.2 (ea2 (ev_var rfl) (ev_op (ev_var rfl) (ev_int (ev_op (ev_var rfl) ev_c (rv_I (show (0 : Int) < 2 by decide)))) (rv_ixL (sq_of h8) ht))) tl (by decide) ta) fun x1 H9 e9 hx1 => ?_
    obtain ⟨t1, rfl, ta1, tl1⟩ := hx1
    have e09 := e8.trans e9
    have h9 := e9.1 pt _ hne h8
    refine q_asgV (va := va) (P := fun x _ => ∃ t' : Mi.Tx, x = vS t' ∧ Asc t' ∧ t'.length ≤ 1030) (fun Q2 q2 => dv_drawI (n := 3) e9.2 (ev_var rfl) (by decide) (by decide) _ fun r H10 e10 hr10 => ?_) fun x2 H11 e11 hx2 => ?_
    · obtain ⟨r, rfl, hr⟩ := hr10
      refine ⟨rfl, _, rfl, ?_⟩
      cases decide (vI r = V.int 0) with
      | true => exact iteT (dv_bent (n := 510) e10.2 (ea2 (ev_var rfl) (ev_var rfl)) tl1 (by decide) ta1 _ fun x3 H12 e12 ⟨t3, q1, q3, q4⟩ => q2 x3 H12 (e10.trans e12) ⟨t3, q1, q3, q4⟩)
      | false => exact iteF ⟨_, rfl, q2 _ H10 e10 ⟨t1, rfl, ta1, by omega⟩⟩
    obtain ⟨t2, rfl, ta2, tl2⟩ := hx2
    have e011 := e09.trans e11
    have h11 := e11.1 pt _ hne h9
    refine s_forNT (xs := [.bl true, .bl false]) (eu_tup (ea2 ev_c ev_c) (by show 2 ≤ 100000; decide)) (fun p j σ' H' => Vx va H H' ∧ H' pt = some (.lst ([d.text, q.text].map vS)) ∧ H' p = some (.tup [.bl true, .bl false]) ∧ ∃ b1 b2 b4 b5, σ' = [some (.ref va), some (.ref pt), b1, b2, some x, some y, some (vS t2), b4, b5]) (fun p H12 hp e12 h12 => ⟨e011.trans (.of_ex e011.2 e12), e12 pt _ h11, h12, _, _, _, _, rfl⟩) (fun p j σ' H' _ h => st_of h.2.2.1) ?_ ?_
    · rintro p j v σ' H12 hj ⟨e12, h12, hp12, b1, b2, b4, b5, rfl⟩
      obtain ⟨b, rfl⟩ : ∃ b, v = .bl b := by
        have hm := List.mem_of_getElem? hj
        simp only [List.mem_cons, List.not_mem_nil, or_false] at hm
        rcases hm with rfl | rfl
        · exact ⟨_, rfl⟩
        · exact ⟨_, rfl⟩
      obtain ⟨ds, hds⟩ : ∃ ds, Mi.out (Mi.read b t2) = .tuple ds := by
        cases Mi.read b t2 <;> exact ⟨_, rfl⟩
      have hfit := fit_read (b := b) (z := t2) (by omega) ta2
      rw [hds] at hfit
      refine s_when (b := false) (et_is (et_op (ev_repr (ds := ds) (ed_cal (ea2 (ev_var rfl) (ev_var rfl)) fun _ _ => ⟨t2, b, rfl, by omega, hds.symm⟩) hfit) (ev_repr (ds := ds) (ed_cal (ea2 (ev_var rfl) (ev_var rfl)) fun _ _ => ⟨t2, b, rfl, by omega, ta2, hds.symm⟩) hfit) (rv_ne rfl)) (by simp)) (fun h => nomatch h) fun _ H13 e13 => ⟨e12.trans (.of_ex e12.2 e13), e13 pt _ h12, e13 p _ hp12, _, _, _, _, rfl⟩
    · rintro p σ' H12 ⟨e12, h12, hp12, b1, b2, b4, b5, rfl⟩
      exact ⟨e12, h12, _, _, _, _, _, rfl⟩
  · rintro σ' H8 ⟨e8, h8, a1, a2, a3, a4, a5, rfl⟩
    exact s_ret ev_c fun H9 e9 => k H9 (e8.trans (.of_ex e8.2 e9))
end
end K9
set_option Elab.async false
set_option linter.all false
set_option maxRecDepth 100000
set_option maxHeartbeats 1000000
namespace K9
open PySem PySem.Spec PyProof.Rows L2 Evl
open PySem.PeX (PeTxt)
section
variable {K : PySem.W.Frag} {σ : L2.St} {H H' : Hp} {ta tb te tl : TE} {tas : TA} {α : Type}
/-! ### new lists of data -/
def ELD (K : PySem.W.Frag) (te : TE) (σ : L2.St) (H : Hp) (ds : List PyData) : Prop := ∀ H1, Ex H H1 → ∀ Q : VK, (∀ p vs H2, Ex H1 H2 → H2 p = some (.lst vs) → DtAll K H2 vs ds → Q (.ref p) H2) → te σ H1 Q
theorem eld_lst {ds : List PyData} (h : EAD K tas σ H ds) (hl : ds.length ≤ 100000) : ELD K (tLst tas) σ H ds := fun H1 e Q q =>
  h H1 e _ fun vs H2 e2 hd => ⟨by rw [hd.length]; exact sz_of hl, fun p hp => q p vs _ (e2.trans (Ex.new hp)) upd_same (hd.ex (Ex.new hp))⟩
theorem q_asgLD {i : Nat} {D : Ends} {tz : TS} {ds : List PyData} (h : ELD K te σ H ds) (k : ∀ p vs H1, Ex H H1 → H1 p = some (.lst vs) → DtAll K H1 vs ds → tz D (σ.set i (some (.ref p))) H1) : tSeq (tAsg te (gName i)) tz D σ H := h H (Ex.refl H) _ k
theorem lc_dat {J : It} {G : Hp → Prop} {j : Nat} {vs : List Nat} {l : List α} {val : α → V} {D : Addr} {Q : VK} (g : α → PyData) (wk : Walk J l.length G fun i H x H' => H' = H ∧ ∃ c, l[i]? = some c ∧ x = val c) (hG : ∀ H', Ex H H' → G H') (hz : l.length ≤ 40000) (hD : H D = none)
    (hw : ∀ x, wipe ((wipe σ vs).set j (some x)) vs = wipe σ vs) (he : ∀ c ∈ l, ∀ H1, Ex H H1 → ED K te ((wipe σ vs).set j (some (val c))) H1 (g c)) (q : ∀ ws H', Ex H H' → H' D = some (.lst ws) → DtAll K H' ws (l.map g) → Q (.ref D) H') :
    ∃ W : Nat → Nat → Hp → Prop, (∃ m, W 0 m (upd H D (.lst []))) ∧ ∀ i m H, W i m H → (J.stop i H ∧ Q (.ref D) H) ∨ (J.go i H ∧ ∃ Nx : Hp → Prop, (∀ H', Nx H' → ∃ m', m' < m ∧ W (i + 1) m' H') ∧ ∀ x H', J.yld i H x H' → gName j x (wipe σ vs) H' fun σ2 H2 => wipe σ2 vs = wipe σ vs ∧ tYes σ2 H2 fun b H3 =>
      if b = true then te σ2 H3 fun y H4 => ∃ acc, H4 D = some (.lst acc) ∧ acc.length < sizeLine ∧ Nx (upd H4 D (.lst (acc ++ [y]))) else Nx H3) := by
  refine lc_it wk (fun i H' => Ex H H' ∧ ∃ ws, H' D = some (.lst ws) ∧ DtAll K H' ws ((l.take i).map g)) ⟨Ex.new hD, [], upd_same, .nil⟩ (fun i H' _ h => hG H' h.1) ?_ fun H' h => ?_
  · rintro i x H1 H2 hi ⟨e1, ws, h1, hd⟩ ⟨rfl, c, hc, rfl⟩
    have hm : c ∈ l := List.mem_of_getElem? hc
    refine ⟨hw _, et_yes H2 (Ex.refl H2) _ fun H3 e3 => iteT (he c hm H2 e1 H3 e3 _ fun y H4 e4 hy => ?_)⟩
    have hlen : ws.length ≤ 40000 := by
      rw [hd.length, List.length_map]
      have := List.length_take_le i l
      rw [List.length_take]
      omega
    have h4 := e4 D _ (e3 D _ h1)
    refine ⟨ws, h4, sz_lt (by omega), Ex.mut ((e1.trans e3).trans e4) hD, ws ++ [y], upd_same, ?_⟩
    rw [snoc_take hc, List.map_append]
    exact ((hd.ex (e3.trans e4)).snoc hy).up (Tm.put h4)
  · obtain ⟨e1, ws, h1, hd⟩ := h
    rw [List.take_length] at hd
    exact q ws H' e1 h1 hd
theorem eld_seq {j : Nat} {vs : List Nat} {a : Addr} {l : List α} {val : α → V} (g : α → PyData) (h : Ev tl σ H (.ref a)) (hx : SqL K H a (l.map val)) (hz : l.length ≤ 40000) (hw : ∀ x, wipe ((wipe σ vs).set j (some x)) vs = wipe σ vs)
    (he : ∀ c ∈ l, ∀ H1, Ex H H1 → ED K te ((wipe σ vs).set j (some (val c))) H1 (g c)) : ELD K (tLc (iList K tl) (gName j) tYes te vs) σ H (l.map g) := fun H1 e Q q => h H1 e _ fun H2 e2 => ⟨a, rfl, ⟨_, ex_l (e.trans e2) hx⟩, fun D hD =>
  lc_dat (l := l) (val := val) g walk_mapL (fun H3 e3 => ex_l ((e.trans e2).trans e3) hx) hz hD hw (fun c hc H3 e3 => he c hc H3 ((e.trans e2).trans e3)) fun ws H3 e3 h3 hd => q D ws H3 (e2.trans e3) h3 hd⟩
theorem eld_tupN {j : Nat} {vs : List Nat} {l : List α} {val : α → V} (g : α → PyData) (h : EvU tl σ H (l.map val)) (hz : l.length ≤ 40000) (hw : ∀ x, wipe ((wipe σ vs).set j (some x)) vs = wipe σ vs)
    (he : ∀ c ∈ l, ∀ H1, Ex H H1 → ED K te ((wipe σ vs).set j (some (val c))) H1 (g c)) : ELD K (tLc (iTup K tl) (gName j) tYes te vs) σ H (l.map g) := fun H1 e Q q => h H1 e _ fun a H2 ha e2 h2 => ⟨a, rfl, ⟨_, st_of h2⟩, fun D hD =>
  lc_dat (l := l) (val := val) g walk_mapT (fun H3 e3 => ex_t e3 (st_of h2)) hz hD hw (fun c hc H3 e3 => he c hc H3 ((e.trans e2).trans e3)) fun ws H3 e3 h3 hd => q D ws H3 (e2.trans e3) h3 hd⟩
theorem DtAll.dpL {ds : List PyData} {vs : List V} {p : Addr} (h : DtAll K H vs ds) (hp : H p = some (.lst vs)) : Dp K H (.ref p) (.list ds) := .lst (sq_of hp) (Dt.dpA ds vs h)
theorem ev_neLV {ds : List PyData} {p : Addr} {vs : List V} (ha : ELD K ta σ H ds) (hb : ∀ H1, Ex H H1 → Ev tb σ H1 (.ref p)) (hp : H p = some (.lst vs)) (hd : DtAll K H vs ds) (hs : shp 10 (.list ds)) : Ev (tOp (rNeD K) ta tb) σ H (.bl false) := fun H1 e Q q =>
  ha H1 e _ fun l ws H2 e2 h2 hd2 => hb H2 (e.trans e2) H2 (Ex.refl H2) _ fun H3 e3 => ⟨.list ds, .list ds, (hd2.ex e3).dpL (e3 l _ h2), (hd.ex ((e.trans e2).trans e3)).dpL (((e.trans e2).trans e3) p _ hp), hs.ok (by decide), hs.ok (by decide), by
    rw [SeqAt.eqv_refl _ hs.1]
    exact q H3 (e2.trans e3)⟩
theorem ev_eqLL {ds : List PyData} (ha : ELD K ta σ H ds) (hb : ELD K tb σ H ds) (hs : shp 10 (.list ds)) : Ev (tOp (rEqD K) ta tb) σ H (.bl true) := fun H1 e Q q =>
  ha H1 e _ fun l ws H2 e2 h2 hd2 => hb H2 (e.trans e2) _ fun p vs H3 e3 h3 hd3 => ⟨.list ds, .list ds, (hd2.ex e3).dpL (e3 l _ h2), hd3.dpL h3, hs.ok (by decide), hs.ok (by decide), by
    rw [SeqAt.eqv_refl _ hs.1]
    exact q H3 (e2.trans e3)⟩
theorem ed_ix1 {d0 d1 : PyData} (h : ED K te σ H (.tuple [d0, d1])) : ED K (tOp (rIxT K) te (tC (.int 1))) σ H d1 := fun H1 e Q q =>
  h H1 e _ fun x H2 e2 hx => by
    obtain ⟨a, xs, rfl, hs, hd⟩ := Dt.tup_inv hx
    obtain ⟨v, h1, h2⟩ := hd.get (i := 1) rfl
    exact ⟨a, xs, (1 : Int), v, rfl, rfl, hs, atI_nat (j := 1) h1, q v H2 e2 h2⟩
theorem ead_int {i : Int} {ds : List PyData} (h : EAD K tas σ H ds) : EAD K (tCons (tC (.int i)) tas) σ H (.int i :: ds) := ead_cons (ed_of ev_c (.int _)) h
theorem ead_str {x : Str} {ds : List PyData} (h : EAD K tas σ H ds) : EAD K (tCons (tC (.str x)) tas) σ H (.str x :: ds) := ead_cons (ed_of ev_c (.str _)) h
end
/-- the second part of what a reader answers -/
def snd : Except Nat (List PyData) → PyData
  | .ok ds => .tuple ds
  | .error n => Mi.dI n
theorem out_snd (r : Except Nat (List PyData)) : ∃ d0, Mi.out r = .tuple [d0, snd r] := by
  cases r <;> exact ⟨_, rfl⟩
def txs1 : List Mi.Tx := [[], [32], [112, 117, 116], [112, 117, 116, 32, 97], [112, 117, 116, 32, 97, 32, 45], [112, 117, 116, 32, 97, 32, 45, 32], [32, 112, 117, 116, 32, 97, 32, 45], [112, 117, 116, 32, 32, 97, 32, 45], [112, 117, 116, 32, 97, 32, 53, 44, 48, 54], [112, 97, 116, 99, 104, 32, 97, 32, 50, 32, 48, 49, 32, 45], [114, 101, 110, 97, 109, 101, 32, 97, 32, 97], [114, 101, 110, 97, 109, 101, 32, 97, 32, 98, 32, 99], [100, 114, 111, 112, 32, 65]]
def txs2 : List Mi.Tx := [[99, 101, 108, 108, 32, 49, 46, 50, 32, 97, 32, 51], [99, 101, 108, 108, 32, 49, 46, 50, 32, 97, 32, 57, 57, 54], [116, 104, 101, 114, 101, 32, 49, 46, 48, 50, 32, 97]]
def dat1 : List PyData := [.int 0, .int 0, .int 1, .int 2, .tuple [.str "put", .str "a", .tuple []], .int 0, .int 0, .int 0, .int 2, .int 3, .int 2, .int 3, .int 1]
def dat2 : List PyData := [.tuple [.str "cell", .tuple [.int 1, .int 2], .str "a", .int 3], .int 3, .int 1]
theorem reads1 : txs1.map (fun t => snd (Mi.read true t)) = dat1 := by kernel_rfl
theorem reads2 : txs2.map (fun t => snd (Mi.read false t)) = dat2 := by kernel_rfl
theorem shp1 : shp 10 (.list dat1) := ⟨by decide +kernel, by decide +kernel⟩
theorem shp2 : shp 10 (.list dat2) := ⟨by decide +kernel, by decide +kernel⟩
theorem txs1_ok : ∀ t ∈ txs1, t.length ≤ 10000 := by decide +kernel
theorem txs2_ok : ∀ t ∈ txs2, t.length ≤ 10000 := by decide +kernel
section
variable {P : Program} {w : World} {K : PySem.W.Frag} {mg : Str → Option Value} {base : Heap}
theorem q_run {σ : L2.St} {H : Hp} {te : TE} {i : Nat} {D : Ends} {tz : TS} (h : te σ H fun x H' => tz D (σ.set i (some x)) H') : tSeq (tAsg te (gName i)) tz D σ H := h
/-- the script stays while a new vat changes -/
theorem sq_keep {H H1 H2 : Hp} {a va : Addr} {xs : List V} (h : SqL K H a xs) (hva : H va = none) (e : Ex H H1) (e2 : Vx va H1 H2) : SqL K H2 a xs := by
  have go : ∀ o, H a = some o → H2 a = some o := fun o q => e2.1 a o (fun z => by rw [z, hva] at q; cases q) (e a o q)
  rcases h with (h | ⟨o, h⟩) | h
  · exact .inl (.inl (go _ h))
  · exact .inl (.inr ⟨o, go _ h⟩)
  · exact .inr h
theorem pe_ixTK {X : Cx} {K : PySem.W.Frag} {a b : Expr} {ta tb : TE} {pos : Pos} (hK : X.K = K) (ha : PE X a ta) (hb : PE X b tb) (hs : PlainIx b) : PE X (.Subscript a b pos) (tOp (rIxT K) ta tb) := by
  subst hK
  exact pe_ix ix_tup ha hb hs
def SpLaw (K : PySem.W.Frag) : Sp := fun vs H Q _ => ∃ (a : Addr) (ns : List Int), vs = [.ref a] ∧ SqL K H a (ns.map V.int) ∧ ∀ H', Q (.bl true) H'
theorem ed_read {σ : L2.St} {H : Hp} {te tf : TE} {t : Mi.Tx} {b : Bool} {E : XK} (h : Ev te σ H (vS t)) (h2 : Ev tf σ H (.bl b)) (hz : t.length ≤ 10000) : ED K (tOp (rIxT K) (tCall (Spd K p_law_read) [] E (tCons te (tCons tf tNil))) (tC (.int 1))) σ H (snd (Mi.read b t)) := by
  obtain ⟨d0, e⟩ := out_snd (Mi.read b t)
  exact ed_ix1 (d0 := d0) (ed_cal (ea2 h h2) fun _ _ => ⟨t, b, rfl, hz, e.symm⟩)
abbrev N_law : List Str := ["_law_script", "_law_spot", "_law_texts", "_law_spots", "_law_vat_here", "_law_turn", "_law_text"]
theorem S_law : FnScope N_law ["_law_script"] (defScope (top 83)) := ⟨rfl, rfl, rfl, by decide +kernel, rfl, by decide +kernel, by decide +kernel⟩
theorem B_law (kV doc pm : Value) (an : Option Addr) (cdv ct : Value) (us : List Value) (hl : us.length = (["_law_script"] : List Str).length) : bindArgs (PySem.W.fnOf "law" "law" (defArgs (top 83)) (defBody (top 83)) (defScope (top 83)) .none kV doc pm an cdv ct) ⟨us, []⟩ = pure ((["_law_script"] : List Str).zip us) := match us, hl with | [_], _ => rfl
theorem c_law (D : DefOk K mg "law" (top 83)) (G : Gb mg) (c__law_vat : C8.Cal P w K mg base 1 "_law_vat" (SpVat K) []) (c__law_right : CalG P w K mg base 9 "_law_right" SpRight) (c__law_read : C8.Cal P w K mg base 8 "_law_read" (Spd K p_law_read) []) : CalG P w K mg base 10 "law" (SpLaw K) :=
  calG_of D S_law B_law (fun vs H Q E h => by obtain ⟨va, ns, rfl, _⟩ := h; rfl) fun f cdv A fr s H vs Q hgd hr h => by
  refine ⟨_, (pss_cons (ps_for PassesOwn.never rfl (pi_range1 (by rfl) G.f_range (pa_cons (pe_callB (call_max2 rfl) (by rfl) G.f_max boot_max (pa_cons pe_int (pa_cons (pe_callB (call_min2 rfl) (by rfl) G.f_min boot_min (pa_cons pe_int (pa_cons (pe_callB call_len_seq (by rfl) G.f_len boot_len (pa_cons (pv 0) pa_nil)) pa_nil))) pa_nil))) pa_nil)) (pg_name (i := 1) S_law.nd rfl (by first | exact Or.inl rfl | exact Or.inr rfl)) (pss_cons (ps_set (i := 4) S_law.nd rfl (by first | exact Or.inl rfl | exact Or.inr rfl) (C8.pe_c c__law_vat hr (by decide) (by rfl) (pa_cons (pv 0) (pa_cons (pv 1) pa_nil))))
    (pss_one (ps_for PassesOwn.never rfl (pi_range1 (by rfl) G.f_range (pa_cons pe_int pa_nil)) (pg_name (i := 5) S_law.nd rfl (by first | exact Or.inl rfl | exact Or.inr rfl)) (pss_one (ps_if (pt_not (pt_val (pe_cG c__law_right hgd hr (by decide) (by rfl) (pa_cons (pv 4) pa_nil)))) (pss_one (ps_ret pe_bl)) pss_nil))))))
  (pss_cons (ps_set (i := 2) S_law.nd rfl (by first | exact Or.inl rfl | exact Or.inr rfl) (pe_lst (pa_cons pe_str (pa_cons pe_str (pa_cons pe_str (pa_cons pe_str (pa_cons pe_str (pa_cons pe_str (pa_cons pe_str (pa_cons pe_str (pa_cons pe_str (pa_cons pe_str (pa_cons pe_str (pa_cons pe_str (pa_cons pe_str pa_nil)))))))))))))))
  (pss_cons (ps_set (i := 3) S_law.nd rfl (by first | exact Or.inl rfl | exact Or.inr rfl) (pe_lst (pa_cons pe_int (pa_cons pe_int (pa_cons pe_int (pa_cons pe_int (pa_cons (pe_tup (pa_cons pe_str (pa_cons pe_str (pa_cons (pe_tup pa_nil) pa_nil)))) (pa_cons pe_int (pa_cons pe_int (pa_cons pe_int (pa_cons pe_int (pa_cons pe_int (pa_cons pe_int (pa_cons pe_int (pa_cons pe_int pa_nil)))))))))))))))
  (pss_cons (ps_if (pt_cmpR (op_neD hr.units) (pe_lc (own := [("_law_text", 6)]) (g := gName 6) (tt := tYes) rfl S_law.nd (pi_list (pv 2)) (blkOk_by (N := N_law) (sc := defScope (top 83)) (by decide +kernel)) (fun _ _ _ _ _ => pg_name (i := 6) S_law.nd rfl (Or.inl rfl)) (fun _ _ _ _ _ => pts_nil) (fun _ _ _ _ _ => (pe_ixTK (K := K) rfl (C8.pe_c c__law_read hr (by decide) (by rfl) (pa_cons (pv 6) (pa_cons pe_bl pa_nil))) pe_int (fun _ _ => rfl)))) (pv 3) (nomark _)) (pss_one (ps_ret pe_bl)) pss_nil)
  (pss_one (ps_ret (pe_cmpR (op_eqD hr.units) (pe_lc (own := [("_law_text", 6)]) (g := gName 6) (tt := tYes) rfl S_law.nd (pi_tup (pe_tup (pa_cons pe_str (pa_cons pe_str (pa_cons pe_str pa_nil))))) (blkOk_by (N := N_law) (sc := defScope (top 83)) (by decide +kernel)) (fun _ _ _ _ _ => pg_name (i := 6) S_law.nd rfl (Or.inl rfl)) (fun _ _ _ _ _ => pts_nil) (fun _ _ _ _ _ => (pe_ixTK (K := K) rfl (C8.pe_c c__law_read hr (by decide) (by rfl) (pa_cons (pv 6) (pa_cons pe_bl pa_nil))) pe_int (fun _ _ => rfl)))) (pe_lst (pa_cons (pe_tup (pa_cons pe_str (pa_cons (pe_tup (pa_cons pe_int (pa_cons pe_int pa_nil))) (pa_cons pe_str (pa_cons pe_int pa_nil))))) (pa_cons pe_int (pa_cons pe_int pa_nil)))) (nomark _)))))))), ?_⟩
  obtain ⟨a, ns, rfl, hs, k⟩ := h
  obtain ⟨m, hm, hm3⟩ : ∃ m : Int, (∀ H1, Ex H H1 → EvA (tCons (tCB (fun xs H Q => ∃ i j, xs = [.int i, .int j] ∧ Q (.int (if j > i then j else i)) H) (tCons (tC (.int 1)) (tCons (tCB (fun xs H Q => ∃ i j, xs = [.int i, .int j] ∧ Q (.int (if j < i then j else i)) H) (tCons (tC (.int 3)) (tCons (tCB (fun xs H Q => ∃ p ys, xs = [.ref p] ∧ (SqL K H p ys ∨ SqT K H p ys) ∧ Q (.int ys.length) H) (tCons (tVar 0) tNil)) tNil))) tNil))) tNil) (start N_law [.ref a]) H1 [.int m]) ∧ 0 ≤ m ∧ m ≤ 3 := by
    refine ⟨_, fun H1 e1 => ea1 (ev_cb (ea2 ev_c (ev_cb (ea2 ev_c (ev_lenL (ev_var rfl) (ex_l e1 hs))) fun _ _ _ q => ⟨_, _, rfl, q⟩)) fun _ _ _ q => ⟨_, _, rfl, q⟩), ?_⟩
    split <;> split <;> omega
  refine q_forR1 (hm H (Ex.refl H)) ⟨hm3.1, by omega⟩ (fun i σ' H' => SqL K H' a (ns.map V.int) ∧ ∃ a1 a2 a3 a4 a5 a6, σ' = [some (.ref a), a1, a2, a3, a4, a5, a6]) (fun H1 e1 => ⟨ex_l e1 hs, _, _, _, _, _, _, rfl⟩) ?_ ?_
  · rintro i σ' H1 hi ⟨h1, a1, a2, a3, a4, a5, a6, rfl⟩
    refine q_run ⟨_, rfl, _, rfl, a, ns, i, rfl, h1, by omega, fun va H2 hva e2 hv2 => ?_⟩
    refine s_forR1 (ea1 ev_c) (by decide) (fun j σ' H' => Vx va H2 H' ∧ ∃ b1 b2 b3 b5 b6, σ' = [some (.ref a), b1, b2, b3, some (.ref va), b5, b6]) (fun H3 e3 => ⟨.of_ex hv2 e3, _, _, _, _, _, rfl⟩) ?_ ?_
    · rintro j σ' H3 hj ⟨e3, b1, b2, b3, b5, b6, rfl⟩
      exact ⟨_, rfl, va, rfl, e3.2, fun H4 e4 => ⟨true, rfl, iteF ⟨e3.trans e4, _, _, _, _, _, rfl⟩⟩⟩
    · rintro σ' H3 ⟨e3, b1, b2, b3, b5, b6, rfl⟩
      exact ⟨sq_keep h1 hva e2 e3, _, _, _, _, _, _, rfl⟩
  · rintro σ' H1 ⟨h1, a1, a2, a3, a4, a5, a6, rfl⟩
    refine q_asgL (xs := txs1.map vS) (el_lst (strs_run _ txs1 H1) (by decide)) fun p1 H2 _ e2 h2 => ?_
    refine q_asgLD (K := K) (ds := dat1) (eld_lst (ead_int (ead_int (ead_int (ead_int (ead_cons (ed_tup (ead_str (ead_str (ead_cons (ed_tup ead_nil (by decide)) ead_nil))) (by decide)) (ead_int (ead_int (ead_int (ead_int (ead_int (ead_int (ead_int (ead_int ead_nil))))))))))))) (by decide)) fun p2 vs2 H3 e3 h3 hd3 => ?_
    have e1 : txs1.map (fun t => snd (Mi.read true t)) = dat1 := reads1
    refine q_when (b := false) (et_test (ev_neLV (ds := dat1) (by rw [← e1]; exact eld_seq (fun t => snd (Mi.read true t)) (ev_var rfl) (sq_of (e3 p1 _ h2)) (by decide) (fun _ => rfl) fun t ht H4 e4 => ed_read (ev_var rfl) ev_c (txs1_ok t ht)) (fun _ _ => ev_var rfl) h3 hd3 shp1)) (fun h => nomatch h) fun _ H4 e4 => ?_
    have e2' : txs2.map (fun t => snd (Mi.read false t)) = dat2 := reads2
    refine s_ret (v := .bl true) (ev_eqLL (ds := dat2) (by rw [← e2']; exact eld_tupN (l := txs2) (val := vS) (fun t => snd (Mi.read false t)) (eu_tup (ea3 ev_c ev_c ev_c) (by show 3 ≤ 100000; decide)) (by decide) (fun _ => rfl) fun t ht H5 e5 => ed_read (ev_var rfl) ev_c (txs2_ok t ht)) (eld_lst (ead_cons (ed_tup (ead_str (ead_cons (ed_tup (ead_int (ead_int ead_nil)) (by decide)) (ead_str (ead_int ead_nil)))) (by decide)) (ead_int (ead_int ead_nil))) (by decide)) shp2) fun H5 _ => k H5
end
end K9
set_option Elab.async false
set_option linter.all false
set_option maxRecDepth 100000
set_option maxHeartbeats 1000000
/-! What the top has left, read off its end: the defs, the constants, the tables, the one error class. -/
namespace K9
open PySem PySem.Spec PyProof.Rows L2
open PySem.PeX (PeTxt)
def dl0 : List (Str × Nat) := [("is_whole", 10), ("is_within", 11), ("is_cell", 12), ("are_cells_in", 13), ("is_name", 14), ("is_deed", 23), ("require_deed", 24), ("is_save_name", 27), ("is_question", 33), ("is_answer", 34), ("require_question", 35), ("save_text", 48), ("cells_text", 49), ("number_in", 50), ("save_in_word", 51), ("cells_in_word", 52), ("part_in", 53), ("words_in", 54), ("told_by", 55), ("text_by", 56), ("deed_text", 57), ("question_text", 58), ("answer_text", 59), ("read_deed", 60), ("read_question", 61), ("_law_vat", 63), ("_law_draw", 64), ("_law_pick", 65), ("_law_cells", 66), ("_law_cells_word", 67)]
def dl1 : List (Str × Nat) := [("_law_save_word", 68), ("_law_deed_text", 69), ("_law_question_text", 70), ("_law_answer_text", 71), ("_law_number", 72), ("_law_is_name", 73), ("_law_word_cells", 74), ("_law_word_save", 75), ("_law_part", 76), ("_law_read_words", 77), ("_law_bent_text", 78), ("_law_any_deed", 79), ("_law_any_question", 80), ("_law_read", 81), ("_law_right", 82), ("law", 83)]
def dl : List (Str × Nat) := dl0 ++ dl1
def fa1 : List He.Fa := [.free "isinstance", .free "len", .free "all", .free "min", .free "max", .free "abs", .free "repr", .free "tuple", .free "str", .free "int", .free "range", .free "enumerate", .free "bool", .free "super"]
def fa2 : List He.Fa := [.int "MAX_CELL" 996, .int "MAX_NAME" 4, .str "LETTERS" "abcdefghijklmnopqrstuvwxyz", .int "MOST_NEW" 48, .str "PUT" "put", .str "PATCH" "patch", .str "DROP" "drop", .str "RENAME" "rename", .int "PAIR" 2, .str "CELL" "cell", .str "THERE" "there", .str "FIGURES" "0123456789", .str "NOTHING" "-", .str "NAME" "name", .str "PLACE" "place", .str "NEW" "new", .str "SAVE" "save", .str "AT" "at", .int "MOST_AT_texts" 995, .int "MOST_AT_checker" 995, .int "MOST_WORD" 5]
def fa3 : List He.Fa := [.glo "ParseError", .glo "WORDS", .glo "SIZES_trees", .glo "SIZES_checker", .glo "DEEDS", .glo "QUESTIONS"]
def dfn (p : Str × Nat) : He.DefD := ⟨(p.1, none), p.1, p.1, defArgs (top p.2), defBody (top p.2), defScope (top p.2), [], []⟩
def fnL : List He.DefD := dl.map dfn
def faL : List He.Fa := dl.map (fun p => .glo p.1) ++ (fa1 ++ (fa2 ++ fa3))
/-! ### tuples and tables -/
def tupA (K : PySem.W.Frag) (a : Addr) (vs : List V) : Bool := match K.lookup a with
  | some ⟨.type c, _, .seq its _, _⟩ => decide (c = "tuple") && (decide (its.size ≤ sizeLine) && He.relAll vs its.toList)
  | _ => false
theorem tupA_ok {K : PySem.W.Frag} {a : Addr} {vs : List V} (h : tupA K a vs = true) : KTup K a vs := fun H => by
  unfold tupA at h
  cases q : K.lookup a with
  | none =>
    rw [q] at h
    cases h
  | some o =>
    obtain ⟨c0, d0, dt, s0⟩ := o
    rw [q] at h
    cases c0 with
    | type c =>
      cases dt with
      | seq its n =>
        obtain ⟨h1, h2⟩ := He.ba (show (decide (c = "tuple") && (decide (its.size ≤ sizeLine) && He.relAll vs its.toList)) = true from h)
        obtain ⟨h3, h4⟩ := He.ba h2
        exact .inr ⟨_, its, n, q, congrArg Value.type (of_decide_eq_true h1), rfl, of_decide_eq_true h3, He.relAll_ok h4⟩
      | _ => cases h
    | _ => cases dt <;> cases h
def entB (K : PySem.W.Frag) : List DictEntry → List (Str × He.Dv) → Bool
  | [], [] => true
  | e :: r, q :: qs => (match e.key with
    | .str y _ => decide (y = q.1)
    | _ => false) && (He.relB (q.2.v K) e.val && entB K r qs)
  | _, _ => false
def tabF (K : PySem.W.Frag) (kvs : List (Str × He.Dv)) (z : Str) : Option V := (kvs.lookup z).map (He.Dv.v K)
theorem entB_ok {K : PySem.W.Frag} {z : Str} : ∀ {l : List DictEntry} {kvs : List (Str × He.Dv)}, entB K l kvs = true → RelO (tabF K kvs z) ((l.find? fun e => Value.isStrOf z e.key).map (·.val))
  | [], [], _ => trivial
  | [], _ :: _, h => by cases h
  | _ :: _, [], h => by cases h
  | e :: r, q :: qs, h => by
    obtain ⟨h1, h2⟩ := He.ba (show ((match e.key with
      | .str y _ => decide (y = q.1)
      | _ => false) && (He.relB (q.2.v K) e.val && entB K r qs)) = true from h)
    obtain ⟨h3, h4⟩ := He.ba h2
    obtain ⟨hs, k, v⟩ := e
    obtain ⟨x, d⟩ := q
    cases k with
    | str y t =>
      have hy : y = x := of_decide_eq_true h1
      subst hy
      have e0 : Value.isStrOf z (Value.str y t) = (y == z) := rfl
      unfold tabF
      rw [List.find?_cons]
      show RelO _ (Option.map _ (match Value.isStrOf z (Value.str y t) with
        | true => _
        | false => _))
      rw [e0]
      by_cases hz : y = z
      · subst hz
        have e1 : (y == y) = true := by simp
        have e2 : List.lookup y ((y, d) :: qs) = some d := by simp [List.lookup]
        rw [e1, e2]
        exact He.relB_ok h3
      · have e1 : (y == z) = false := by simpa using hz
        have e2 : List.lookup z ((y, d) :: qs) = List.lookup z qs := by
          have : (z == y) = false := by simpa using fun h => hz h.symm
          simp [List.lookup, this]
        rw [e1, e2]
        exact entB_ok h4
    | _ => cases h1
def tabB (K : PySem.W.Frag) (a : Addr) (kvs : List (Str × He.Dv)) : Bool := match K.lookup a with
  | some ⟨_, _, .dict es _, _⟩ => entB K es.toList kvs
  | _ => false
theorem wd_of {K : PySem.W.Frag} {w : World} {a : Addr} {kvs : List (Str × He.Dv)} (h : ∃ es n, KDict K w a es n) (hb : tabB K a kvs = true) : WDict K w a (tabF K kvs) := by
  obtain ⟨es, n, D⟩ := h
  refine ⟨es, n, D, fun z => ?_⟩
  unfold tabB at hb
  rw [D.at_] at hb
  have q := entB_ok (z := z) (show entB K es.toList kvs = true from hb)
  obtain ⟨l⟩ := es
  show RelO _ ((Array.find? (fun e => Value.isStrOf z e.key) ⟨l⟩).map (·.val))
  rw [List.find?_toArray]
  exact q
/-- what a table's key stands for, if it is an object -/
def valAt (x k : Str) (K : PySem.W.Frag) : Addr := match PySem.W.nsIn K (He.ga K x) k with
  | some (some (.ref b)) => b
  | _ => 0
def kS : List (Str × He.Dv) := [(Mi.S Mi.wPut, .int 3), (Mi.S Mi.wPatch, .int 5), (Mi.S Mi.wDrop, .int 2), (Mi.S Mi.wRename, .int 3)]
def kC : List (Str × He.Dv) := [(Mi.S Mi.wThere, .int 3), (Mi.S Mi.wLength, .int 3), (Mi.S Mi.wCell, .int 4)]
def kD : List (Str × He.Dv) := [(Mi.S Mi.wPut, .adr (valAt "DEEDS" "put")), (Mi.S Mi.wPatch, .adr (valAt "DEEDS" "patch")), (Mi.S Mi.wDrop, .adr (valAt "DEEDS" "drop")), (Mi.S Mi.wRename, .adr (valAt "DEEDS" "rename"))]
def kQ : List (Str × He.Dv) := [(Mi.S Mi.wThere, .adr (valAt "QUESTIONS" "there")), (Mi.S Mi.wLength, .adr (valAt "QUESTIONS" "length")), (Mi.S Mi.wCell, .adr (valAt "QUESTIONS" "cell"))]
def tsL : List He.Tab := [(fun K => He.ga K "SIZES_trees", ["put", "patch", "drop", "rename"]), (fun K => He.ga K "SIZES_checker", ["there", "length", "cell"]), (fun K => He.ga K "DEEDS", ["put", "patch", "drop", "rename"]), (fun K => He.ga K "QUESTIONS", ["there", "length", "cell"])]
def fv (fs : List Nat) : List V := fs.map fun f => V.str (Mi.S (fN f))
def tabsB (K : PySem.W.Frag) : Bool := tupA K (He.ga K "WORDS") [vS Mi.wPut, vS Mi.wPatch, vS Mi.wDrop, vS Mi.wRename] && (tabB K (He.ga K "SIZES_trees") kS && (tabB K (He.ga K "SIZES_checker") kC && (tabB K (He.ga K "DEEDS") kD && (tabB K (He.ga K "QUESTIONS") kQ &&
  (tupA K (valAt "DEEDS" "put" K) (fv [0, 2]) && (tupA K (valAt "DEEDS" "patch" K) (fv [0, 3, 3, 2]) && (tupA K (valAt "DEEDS" "drop" K) (fv [0]) && (tupA K (valAt "DEEDS" "rename" K) (fv [0, 0]) &&
    (tupA K (valAt "QUESTIONS" "there" K) (fv [1, 0]) && (tupA K (valAt "QUESTIONS" "length" K) (fv [1, 0]) && tupA K (valAt "QUESTIONS" "cell" K) (fv [1, 0, 4])))))))))))
theorem look_S {a w : Mi.Tx} {d : He.Dv} {r : List (Str × He.Dv)} : List.lookup (Mi.S w) ((Mi.S a, d) :: r) = if w = a then some d else List.lookup (Mi.S w) r := by
  rw [List.lookup_cons, SX.S_beq_eq]
  by_cases h : w = a
  · rw [if_pos h, decide_eq_true h]
  · rw [if_neg h, decide_eq_false h]
/-! ### the error class -/
def clsB (K : PySem.W.Frag) (C : Addr) : Bool := match K.lookup C with
  | some ⟨.type t, _, .cls cd, sl⟩ => (match cd.mro, sl.toList with
    | .ref C' :: bm, [_, _, _, _, some (.builtin n), _] => (decide (t = "type") && (decide (C' = C) && (decide (n = "ValueError.__new__") && (!cd.hasDel && cd.hasDict)))) && (PySem.HandSPX.refsVE bm && He.eqO (PySem.W.alongIn K "__init__" bm) (some (some (.builtin "ValueError.__init__"))))
    | _, _ => false)
  | _ => false
theorem clsB_ok {K : PySem.W.Frag} {C : Addr} (h : clsB K C = true) : ∃ nm q N bs bm sn sub ab col dd k0 k1 k2 k3 k5, K.lookup C = some (excClassObj nm q C N bs bm true sn sub ab col dd k0 k1 k2 k3 k5 "ValueError.__new__") ∧ PySem.HandSPX.refsVE bm = true ∧ PySem.W.alongIn K "__init__" bm = some (some (.builtin "ValueError.__init__")) := by
  unfold clsB at h
  split at h
  · rename_i t dd cd sl ho
    split at h
    · rename_i C' bm k0 k1 k2 k3 n k5 hm hs
      obtain ⟨h1, h2⟩ := He.ba h
      obtain ⟨h3, h4⟩ := He.ba h2
      obtain ⟨h5, h6⟩ := He.ba h1
      obtain ⟨h7, h8⟩ := He.ba h6
      obtain ⟨h9, h10⟩ := He.ba h8
      obtain ⟨h11, h12⟩ := He.ba h10
      have e1 := of_decide_eq_true h5
      have e2 := of_decide_eq_true h7
      have e3 := of_decide_eq_true h9
      subst e1 e2 e3
      obtain ⟨nm, bs, mro, ns, q, hd, sn, sub, ab, col, hdel⟩ := cd
      obtain ⟨sl⟩ := sl
      simp only at hm hs h11 h12
      have e4 : hdel = false := by
        cases hdel
        · rfl
        · cases h11
      subst hm hs h12 e4
      exact ⟨nm, q, ns, bs, bm, sn, sub, ab, col, dd, k0, k1, k2, k3, k5, ho, h3, He.eqO_ok h4⟩
    · cases h
  · cases h
def fiA (K : PySem.W.Frag) : Addr := He.ma K (He.ga K "ParseError") "__init__"
abbrev IniV : Type := Option (Str × Str × Arguments × FuncBody × Scope × Addr × Value × Value × Addr)
def iniObs (K : PySem.W.Frag) : IniV := match K.lookup (fiA K) with
  | some ⟨_, _, .func fd, _⟩ => some (fd.name, fd.qualname, fd.params, fd.body, fd.scope, fd.globals, fd.defaults, fd.kwdefaults, fd.builtins)
  | _ => none
def iniVal : IniV := some ("__init__", "ParseError.__init__", defArgs PySem.PeX.iSt, .stmts (defBody PySem.PeX.iSt), defScope PySem.PeX.iSt, mainGlobals, .none, .none, builtinsNs)
def cutFile : Str := "/claim/cut.py"
def iniB (K : PySem.W.Frag) : Bool := match K.lookup (fiA K) with
  | some ⟨_, _, .func fd, _⟩ => (match fd.closure, fd.code with
    | [(n, cc)], .ref cda => decide (n = "__class__") && (PySem.W.codeIn K (.ref cda) "ParseError.__init__" && ((match K.lookup cda with
      | some ⟨_, _, .fields vs, _⟩ => (match (vs[2]? : Option Value) with
        | some (Value.str f _) => decide (f = cutFile)
        | _ => false)
      | _ => false) && (match K.lookup cc with
      | some ⟨_, _, .cell (some (.ref c)), _⟩ => decide (c = He.ga K "ParseError")
      | _ => false)))
    | _, _ => false)
  | _ => false
theorem ini_ok {K : PySem.W.Frag} (hb : iniB K = true) (hv : iniObs K = iniVal) : ∃ (oc : Value) (od : Option Addr) (doc pm : Value) (an : Option Addr) (cda cc : Addr) (ct : Value) (osl : Array (Option Value)) (ccl : Value) (cdd : Option Addr) (vs : Array Value) (ccs : Array (Option Value)) (file : Str) (tf : Tok) (cl : Value) (cld : Option Addr) (csl : Array (Option Value)),
    K.lookup (fiA K) = some ⟨oc, od, .func (PySem.W.ksFn "__init__" "ParseError.__init__" (defArgs PySem.PeX.iSt) (defBody PySem.PeX.iSt) (defScope PySem.PeX.iSt) .none .none doc pm an (.ref cda) ct cc), osl⟩ ∧ PySem.W.codeIn K (.ref cda) "ParseError.__init__" = true ∧
    K.lookup cda = some ⟨ccl, cdd, .fields vs, ccs⟩ ∧ vs[2]? = some (.str file tf) ∧ (cutFile == file) = true ∧ K.lookup cc = some ⟨cl, cld, .cell (some (.ref (He.ga K "ParseError"))), csl⟩ := by
  unfold iniB at hb
  unfold iniObs at hv
  split at hb
  · rename_i oc od fd osl ho
    rw [ho] at hv
    obtain ⟨n1, n2, n3, n4, n5, n6, n7, n8, n9, n10, n11, n12, n13, n14, n15⟩ := fd
    have e2 : (some (n1, n2, n3, n4, n5, n6, n8, n9, n15) : IniV) = iniVal := hv
    unfold iniVal at e2
    simp only [Option.some.injEq, Prod.mk.injEq] at e2
    obtain ⟨h1, h2, h3, h4, h5, h6, h7, h8, h9⟩ := e2
    subst h1 h2 h3 h4 h5 h6 h7 h8 h9
    simp only at hb
    split at hb
    · rename_i n cc cda
      obtain ⟨a1, a2⟩ := He.ba hb
      obtain ⟨a3, a4⟩ := He.ba a2
      obtain ⟨a5, a6⟩ := He.ba a4
      have a1' := of_decide_eq_true a1
      subst a1'
      split at a5
      · rename_i ccl cdd vs ccs hcda
        split at a5
        · rename_i f tf hvs
          have a5' := of_decide_eq_true a5
          split at a6
          · rename_i cl cld c csl hcc
            have a6' := of_decide_eq_true a6
            subst a6'
            exact ⟨oc, od, _, _, _, cda, cc, _, osl, ccl, cdd, vs, ccs, f, tf, cl, cld, csl, ho, a3, hcda, hvs, by rw [a5']; simp, hcc⟩
          · cases a6
        · cases a5
      · cases a5
    · cases hb
  · cases hb
def ob2 (a b : Option Bool) : Bool := decide (a = b)
def ovB (a b : Option Value) : Bool := decide (a = b)
def peB (K : PySem.W.Frag) : Bool :=
  let C := He.ga K "ParseError"
  clsB K C && (He.eqO (PySem.W.findIn K (.ref C) "__setattr__") (some (some (.builtin "object.__setattr__"))) && (He.eqO (PySem.W.findIn K (.ref C) "__getattribute__") (some (some (.builtin "BaseException.__getattribute__"))) && (He.eqO (PySem.W.findIn K (.ref C) "__getattr__") (some none) &&
    (He.eqO (PySem.W.findIn K (.ref C) "at") (some none) && (He.eqO (PySem.W.findIn K (.ref C) "__init__") (some (some (.ref (fiA K)))) && (ovB (PySem.W.typeIn K (.ref (fiA K))) (some (.type "function")) && (PySem.W.keepIn K (.ref C) &&
      (ob2 (PySem.W.subIn K (.ref C) (.type "BaseException")) (some true) && (ob2 (PySem.W.subIn K (.ref C) (.type "ValueError")) (some true) && (ob2 (PySem.W.mroIn K C (.ref C)) (some true) && (ovB (PySem.W.typeIn K (.ref C)) (some (.type "type")) &&
        (PySem.W.hasDictIn K C && (ob2 (PySem.W.exmOne K (.ref C) (.ref C)) (some true) && (He.eqO (PySem.W.nsIn K cStatics "thirdparty.any") (some none) && iniB K))))))))))))))
/-! ### the Hook -/
abbrev Al9 : Type := He.AlT × IniV × Bool
def ob9 (K : PySem.W.Frag) : Al9 := (He.obsT faL fnL tsL K, iniObs K, tabsB K && peB K)
def val9 (w : World) : Al9 := (He.valT fnL tsL w, iniVal, true)
def as9 (g : Addr → Option Obj) : List Addr := cStatics :: He.asD g 5
def obs9 (g : Addr → Option Obj) : Al9 := ob9 (He.frG g (as9 g))
def hook9 : PySem.W.Hook where
  α := Al9
  obs := fun s => obs9 s.heap.get?
  val := val9
  says := fun w h => ∃ K : PySem.W.Frag, K.In h ∧ ob9 K = val9 w
  of := fun _ _ e => ⟨_, He.frG_in, e⟩
  keeps := fun _ _ _ ⟨K, hK, c⟩ k => ⟨K, PySem.W.Frag.In.keeps hK k, c⟩
def look9 (s : PySem.W.SharedT) : Al9 := obs9 (HandSHeadRun.getT s)
theorem look9_eq (s : PySem.W.SharedT) : look9 s = hook9.obs s.abs := by
  have e : HandSHeadRun.getT s = s.abs.heap.get? := funext (HandSHeadRun.getT_eq s)
  unfold look9
  rw [e] <;> rfl
/-! ### what it tells -/
section
variable {P : Program} {w : World} {K : PySem.W.Frag} {mg : Str → Option Value} {h : Heap}
theorem def_of (c : He.SaysD faL fnL K) (X : K.In h) (G : h.Ns mainGlobals mg) (i : Nat) {x : Str} {n : Nat} (hi : dl[i]? = some (x, n)) : DefOk K mg x (top n) := by
  have h1 : fnL[i]? = some (dfn (x, n)) := by
    unfold fnL
    rw [List.getElem?_map, hi] <;> rfl
  have h2 : faL[i]? = some (.glo x) := by
    unfold faL
    rw [List.getElem?_append_left (by rw [List.length_map]; exact (List.getElem?_eq_some_iff.mp hi).1), List.getElem?_map, hi] <;> rfl
  obtain ⟨fd, F⟩ := c.def_ i h1
  exact ⟨_, fd, F, He.glo_ok X G (c.fact i h2)⟩
theorem gb_of (c : He.SaysD faL fnL K) (X : K.In h) (G : h.Ns mainGlobals mg) : Gb mg := by
  have fact : ∀ {f : He.Fa}, f ∈ faL → f.ok K = true := fun {f} hf => by
    obtain ⟨i, hi, e⟩ := List.mem_iff_getElem.mp hf
    exact c.fact i (f := f) (by rw [List.getElem?_eq_getElem hi, e])
  have f1 : ∀ (i : Nat) {x : Str}, fa1[i]? = some (.free x) → mg x = none := fun i {x} e => He.free_ok X G (fact (List.mem_append_right _ (List.mem_append_left _ (List.mem_of_getElem? e))))
  have f2i : ∀ (i : Nat) {x : Str} {j : Int}, fa2[i]? = some (.int x j) → ∃ u, mg x = some u ∧ RelV (.int j) u := fun i {x j} e => by
    obtain ⟨t, q⟩ := He.int_ok X G (fact (List.mem_append_right _ (List.mem_append_right _ (List.mem_append_left _ (List.mem_of_getElem? e)))))
    exact ⟨_, q, t, rfl⟩
  have f2s : ∀ (i : Nat) {x z : Str}, fa2[i]? = some (.str x z) → ∃ u, mg x = some u ∧ RelV (.str z) u := fun i {x z} e => by
    obtain ⟨t, q⟩ := He.str_ok X G (fact (List.mem_append_right _ (List.mem_append_right _ (List.mem_append_left _ (List.mem_of_getElem? e)))))
    exact ⟨_, q, t, rfl⟩
  exact {
    f_isinstance := f1 0 rfl
    f_len := f1 1 rfl
    f_all := f1 2 rfl
    f_min := f1 3 rfl
    f_max := f1 4 rfl
    f_abs := f1 5 rfl
    f_repr := f1 6 rfl
    f_tuple := f1 7 rfl
    f_str := f1 8 rfl
    f_int := f1 9 rfl
    f_range := f1 10 rfl
    f_enumerate := f1 11 rfl
    f_bool := f1 12 rfl
    c_MAX_CELL := f2i 0 rfl
    c_MAX_NAME := f2i 1 rfl
    c_LETTERS := f2s 2 rfl
    c_MOST_NEW := f2i 3 rfl
    c_PUT := f2s 4 rfl
    c_PATCH := f2s 5 rfl
    c_DROP := f2s 6 rfl
    c_RENAME := f2s 7 rfl
    c_PAIR := f2i 8 rfl
    c_CELL := f2s 9 rfl
    c_THERE := f2s 10 rfl
    c_FIGURES := f2s 11 rfl
    c_NOTHING := f2s 12 rfl
    c_NAME := f2s 13 rfl
    c_PLACE := f2s 14 rfl
    c_NEW := f2s 15 rfl
    c_SAVE := f2s 16 rfl
    c_AT := f2s 17 rfl
    c_MOST_AT_texts := f2i 18 rfl
    c_MOST_AT_checker := f2i 19 rfl
    c_MOST_WORD := f2i 20 rfl
  }
theorem super_of (c : He.SaysD faL fnL K) (X : K.In h) (G : h.Ns mainGlobals mg) : mg "super" = none := by
  have hf : (He.Fa.free "super") ∈ faL := List.mem_append_right _ (List.mem_append_left _ (List.mem_of_getElem? (i := 13) rfl))
  obtain ⟨i, hi, e⟩ := List.mem_iff_getElem.mp hf
  exact He.free_ok X G (c.fact i (f := .free "super") (by rw [List.getElem?_eq_getElem hi, e]))
theorem glo3 (c : He.SaysD faL fnL K) (X : K.In h) (G : h.Ns mainGlobals mg) (j : Nat) {x : Str} (e : fa3[j]? = some (.glo x)) : mg x = some (.ref (He.ga K x)) := by
  have hf : (He.Fa.glo x) ∈ faL := List.mem_append_right _ (List.mem_append_right _ (List.mem_append_right _ (List.mem_of_getElem? e)))
  obtain ⟨i, hi, e⟩ := List.mem_iff_getElem.mp hf
  exact He.glo_ok X G (c.fact i (f := .glo x) (by rw [List.getElem?_eq_getElem hi, e]))
theorem tb_of (c : ob9 K = val9 w) (X : K.In h) (G : h.Ns mainGlobals mg) : Tb K w mg (He.ga K "WORDS") (He.ga K "SIZES_trees") (He.ga K "SIZES_checker") (He.ga K "DEEDS") (He.ga K "QUESTIONS") (tabF K kS) (tabF K kC) (tabF K kD) (tabF K kQ) := by
  have ct : He.SaysT faL fnL tsL w K := congrArg (fun z : Al9 => z.1) c
  have cb : (tabsB K && peB K) = true := congrArg (fun z : Al9 => z.2.2) c
  have cd := ct.d
  obtain ⟨b1, b⟩ := He.ba (He.ba cb).1
  obtain ⟨b2, b⟩ := He.ba b
  obtain ⟨b3, b⟩ := He.ba b
  obtain ⟨b4, b⟩ := He.ba b
  obtain ⟨b5, b⟩ := He.ba b
  obtain ⟨d1, b⟩ := He.ba b
  obtain ⟨d2, b⟩ := He.ba b
  obtain ⟨d3, b⟩ := He.ba b
  obtain ⟨d4, b⟩ := He.ba b
  obtain ⟨q1, b⟩ := He.ba b
  obtain ⟨q2, q3⟩ := He.ba b
  have hit : ∀ {kvs : List (Str × He.Dv)} {z : Str} {d : He.Dv}, List.lookup z kvs = some d → tabF K kvs z = some (d.v K) := fun e => by
    unfold tabF
    rw [e] <;> rfl
  refine ⟨⟨_, glo3 cd X G 1 rfl, rfl⟩, ⟨_, glo3 cd X G 2 rfl, rfl⟩, ⟨_, glo3 cd X G 3 rfl, rfl⟩, ⟨_, glo3 cd X G 4 rfl, rfl⟩, ⟨_, glo3 cd X G 5 rfl, rfl⟩, tupA_ok b1, wd_of (ct.tab 0 rfl) b2, wd_of (ct.tab 1 rfl) b3, wd_of (ct.tab 2 rfl) b4, wd_of (ct.tab 3 rfl) b5,
    hit (d := .int 3) (by kernel_rfl), hit (d := .int 5) (by kernel_rfl), hit (d := .int 2) (by kernel_rfl), hit (d := .int 3) (by kernel_rfl), hit (d := .int 3) (by kernel_rfl), hit (d := .int 3) (by kernel_rfl), hit (d := .int 4) (by kernel_rfl), fun z => ?_, fun z => ?_⟩
  · unfold tabF kD Mi.forms
    rw [if_pos rfl, look_S]
    by_cases e1 : z = Mi.wPut
    · rw [if_pos e1, if_pos e1]
      exact ⟨_, rfl, tupA_ok d1⟩
    rw [if_neg e1, if_neg e1, look_S]
    by_cases e2 : z = Mi.wPatch
    · rw [if_pos e2, if_pos e2]
      exact ⟨_, rfl, tupA_ok d2⟩
    rw [if_neg e2, if_neg e2, look_S]
    by_cases e3 : z = Mi.wDrop
    · rw [if_pos e3, if_pos e3]
      exact ⟨_, rfl, tupA_ok d3⟩
    rw [if_neg e3, if_neg e3, look_S]
    by_cases e4 : z = Mi.wRename
    · rw [if_pos e4, if_pos e4]
      exact ⟨_, rfl, tupA_ok d4⟩
    rw [if_neg e4, if_neg e4]
    rfl
  · unfold tabF kQ Mi.forms
    rw [if_neg (by decide), look_S]
    by_cases e1 : z = Mi.wThere
    · rw [if_pos e1, if_pos e1]
      exact ⟨_, rfl, tupA_ok q1⟩
    rw [if_neg e1, if_neg e1, look_S]
    by_cases e2 : z = Mi.wLength
    · rw [if_pos e2, if_pos e2]
      exact ⟨_, rfl, tupA_ok q2⟩
    rw [if_neg e2, if_neg e2, look_S]
    by_cases e3 : z = Mi.wCell
    · rw [if_pos e3, if_pos e3]
      exact ⟨_, rfl, tupA_ok q3⟩
    rw [if_neg e3, if_neg e3]
    rfl
theorem pe_of (c : ob9 K = val9 w) (X : K.In h) (G : h.Ns mainGlobals mg) (hT : (P.main.scope.names.lookup ("super" : Str)).isSome = false) (hF : P.main.file = cutFile) : PeTxt P K mg (He.ga K "ParseError") (fiA K) := by
  have ct : He.SaysT faL fnL tsL w K := congrArg (fun z : Al9 => z.1) c
  have cb : (tabsB K && peB K) = true := congrArg (fun z : Al9 => z.2.2) c
  have ci : iniObs K = iniVal := congrArg (fun z : Al9 => z.2.1) c
  have cd := ct.d
  obtain ⟨b1, b⟩ := He.ba (He.ba cb).2
  obtain ⟨b2, b⟩ := He.ba b
  obtain ⟨b3, b⟩ := He.ba b
  obtain ⟨b4, b⟩ := He.ba b
  obtain ⟨b5, b⟩ := He.ba b
  obtain ⟨b6, b⟩ := He.ba b
  obtain ⟨b7, b⟩ := He.ba b
  obtain ⟨b8, b⟩ := He.ba b
  obtain ⟨b9, b⟩ := He.ba b
  obtain ⟨b10, b⟩ := He.ba b
  obtain ⟨b11, b⟩ := He.ba b
  obtain ⟨b12, b⟩ := He.ba b
  obtain ⟨b13, b⟩ := He.ba b
  obtain ⟨b14, b⟩ := He.ba b
  obtain ⟨b15, b16⟩ := He.ba b
  refine ⟨glo3 cd X G 0 rfl, clsB_ok b1, He.eqO_ok b2, He.eqO_ok b3, He.eqO_ok b4, He.eqO_ok b5, He.eqO_ok b6, of_decide_eq_true b7, b8, of_decide_eq_true b9, of_decide_eq_true b10, of_decide_eq_true b11, of_decide_eq_true b12, b13, of_decide_eq_true b14, He.eqO_ok b15, super_of cd X G, hT, ?_⟩
  rw [hF]
  exact ini_ok b16 ci
end
end K9
set_option Elab.async false
set_option linter.all false
set_option maxRecDepth 100000
set_option maxHeartbeats 0
/-! The top's run. -/
namespace K9
open PySem PySem.W PySem.Calls PyProof.Rows
abbrev R9 : OpenRow := OpenLaw.row PySem.Challenge.rw_stillread_k89_whole_texts_of_deeds_and_q
abbrev q9 : Program := view R9.prog [83]
def lo0 : List PySem.Str := ["StillError", "InvalidDeed", "InvalidQuestion", "InvalidOperation", "ParseError", "MAX_CELL", "MAX_NAME", "LETTERS", "is_whole", "is_within", "is_cell", "are_cells_in", "is_name", "MOST_NEW", "PUT", "PATCH", "DROP", "RENAME", "WORDS", "SIZES_trees", "is_deed", "require_deed", "PAIR", "is_save_name", "MOST_AT_checker", "SIZES_checker", "CELL", "THERE", "is_question", "is_answer"]
def lo1 : List PySem.Str := ["require_question", "FIGURES", "NOTHING", "NAME", "PLACE", "NEW", "SAVE", "AT", "MOST_AT_texts", "MOST_WORD", "DEEDS", "QUESTIONS", "save_text", "cells_text", "number_in", "save_in_word", "cells_in_word", "part_in", "words_in", "told_by", "text_by", "deed_text", "question_text", "answer_text", "read_deed", "read_question", "_law_vat", "_law_draw", "_law_pick", "_law_cells"]
def lo2 : List PySem.Str := ["_law_cells_word", "_law_save_word", "_law_deed_text", "_law_question_text", "_law_answer_text", "_law_number", "_law_is_name", "_law_word_cells", "_law_word_save", "_law_part", "_law_read_words", "_law_bent_text", "_law_any_deed", "_law_any_question", "_law_read", "_law_right"]
def lo9 : List PySem.Str := lo0 ++ lo1 ++ lo2
theorem run_f (w : World) : HandSHeadRun.RunEq R9 q9 hook9 look9 4000 lo9 (w.withFollow "special-get-raises" false) := by
  intro os
  kernel_rfl
theorem run_t (w : World) : HandSHeadRun.RunEq R9 q9 hook9 look9 4000 lo9 (w.withFollow "special-get-raises" true) := by
  intro os
  kernel_rfl
theorem run9 (w : World) : HandSHeadRun.RunEq R9 q9 hook9 look9 4000 lo9 w := byRow2 "special-get-raises" (P := fun w => HandSHeadRun.RunEq R9 q9 hook9 look9 4000 lo9 w) run_f run_t w
end K9
set_option Elab.async false
set_option linter.all false
set_option maxRecDepth 100000
set_option maxHeartbeats 1000000
/-! All callables, over the facts of the top; the end. -/
namespace K9
open PySem PySem.Spec PyProof.Rows L2
open PySem.PeX (PeTxt)
section
variable {P : Program} {w : World} {K : PySem.W.Frag} {mg : Str → Option Value} {h : Heap}
theorem law_all (base : Heap) (c : ob9 K = val9 w) (X : K.In h) (hn : h.Ns mainGlobals mg) (hT : (P.main.scope.names.lookup ("super" : Str)).isSome = false) (hF : P.main.file = cutFile) : CalG P w K mg base 10 "law" (SpLaw K) := by
  have ct : He.SaysT faL fnL tsL w K := congrArg (fun z : Al9 => z.1) c
  have cd := ct.d
  have df : ∀ (i : Nat) {x : Str} {n : Nat}, dl[i]? = some (x, n) → DefOk K mg x (top n) := fun i {x n} e => def_of cd X hn i e
  have gb := gb_of cd X hn
  have tb := tb_of c X hn
  have pe := pe_of (P := P) c X hn hT hF
  have k_is_whole := c_is_whole (P := P) (w := w) (base := base) (df 0 rfl) gb
  have k_is_within := c_is_within (P := P) (w := w) (base := base) (df 1 rfl) gb k_is_whole
  have k_is_cell := c_is_cell (P := P) (w := w) (base := base) (df 2 rfl) gb k_is_within
  have k_is_name := c_is_name (P := P) (w := w) (base := base) (df 4 rfl) gb
  have k_is_save_name := c_is_save_name (P := P) (w := w) (base := base) (df 7 rfl) gb k_is_within
  have k_number_in := c_number_in (P := P) (w := w) (base := base) (df 13 rfl) gb
  have k_save_in_word := c_save_in_word (P := P) (w := w) (base := base) (df 14 rfl) gb k_number_in k_is_save_name
  have k_cells_in_word := c_cells_in_word (P := P) (w := w) (base := base) (df 15 rfl) gb k_number_in
  have k_part_in := c_part_in (P := P) (w := w) (base := base) (df 16 rfl) gb k_number_in k_is_name k_save_in_word k_cells_in_word
  have k__law_number := c_law_number (P := P) (w := w) (base := base) (df 34 rfl) gb
  have k__law_is_name := c_law_is_name (P := P) (w := w) (base := base) (df 35 rfl) gb
  have k__law_word_cells := c_law_word_cells (P := P) (w := w) (base := base) (df 36 rfl) gb k__law_number
  have k__law_word_save := c_law_word_save (P := P) (w := w) (base := base) (df 37 rfl) gb k__law_number
  have k__law_part := c_law_part (P := P) (w := w) (base := base) (df 38 rfl) gb k__law_number k__law_is_name k__law_word_save k__law_word_cells
  have k_are_cells_in := c_are_cells_in (P := P) (w := w) (base := base) (df 3 rfl) gb k_is_cell
  have k_is_deed := c_is_deed (P := P) (w := w) (base := base) (df 5 rfl) gb tb k_is_name k_is_within k_are_cells_in
  have k_require_deed := c_require_deed (P := P) (w := w) (base := base) (df 6 rfl) k_is_deed
  have k_is_question := c_is_question (P := P) (w := w) (base := base) (df 8 rfl) gb tb k_is_name k_is_within k_is_save_name
  have k_is_answer := c_is_answer (P := P) (w := w) (base := base) (df 9 rfl) gb k_is_cell
  have k_require_question := c_require_question (P := P) (w := w) (base := base) (df 10 rfl) k_is_question
  have k_save_text := c_save_text (P := P) (w := w) (base := base) (df 11 rfl) gb
  have k_cells_text := c_cells_text (P := P) (w := w) (base := base) (df 12 rfl) gb
  have k_text_by := c_text_by (P := P) (w := w) (base := base) (df 19 rfl) gb tb k_save_text k_cells_text
  have k_deed_text := c_deed_text (P := P) (w := w) (base := base) (df 20 rfl) tb k_require_deed k_text_by
  have k_question_text := c_question_text (P := P) (w := w) (base := base) (df 21 rfl) tb k_require_question k_text_by
  have k_answer_text := c_answer_text (P := P) (w := w) (base := base) (df 22 rfl) gb k_require_question k_is_answer
  have k__law_cells_word := c_law_cells_word (P := P) (w := w) (base := base) (df 29 rfl) gb
  have k__law_save_word := c_law_save_word (P := P) (w := w) (base := base) (df 30 rfl) gb
  have k__law_deed_text := c_law_deed_text (P := P) (w := w) (base := base) (df 31 rfl) gb k__law_cells_word
  have k__law_question_text := c_law_question_text (P := P) (w := w) (base := base) (df 32 rfl) gb k__law_save_word
  have k__law_answer_text := c_law_answer_text (P := P) (w := w) (base := base) (df 33 rfl) gb
  have k_words_in := c_words_in (P := P) (w := w) (base := base) (df 17 rfl) gb pe
  have k_told_by := c_told_by (P := P) (w := w) (base := base) (df 18 rfl) gb tb pe k_part_in
  have k_read_deed := c_read_deed (P := P) (w := w) (base := base) (df 23 rfl) gb k_words_in k_told_by
  have k_read_question := c_read_question (P := P) (w := w) (base := base) (df 24 rfl) gb k_words_in k_told_by
  have k__law_read := c_law_read (P := P) (w := w) (base := base) (df 43 rfl) pe k_read_deed k_read_question
  have k__law_read_words := c_law_read_words (P := P) (w := w) (base := base) (df 39 rfl) gb k__law_part
  have k__law_vat := c_law_vat (P := P) (w := w) (base := base) (df 25 rfl) gb
  have k__law_draw := c_law_draw (P := P) (w := w) (base := base) (df 26 rfl) gb
  have k__law_pick := c_law_pick (P := P) (w := w) (base := base) (df 27 rfl) gb k__law_draw
  have k__law_cells := c_law_cells (P := P) (w := w) (base := base) (df 28 rfl) gb k__law_draw k__law_pick
  have k__law_any_deed := c_law_any_deed (P := P) (w := w) (base := base) (df 41 rfl) gb k__law_draw k__law_pick k__law_cells
  have k__law_any_question := c_law_any_question (P := P) (w := w) (base := base) (df 42 rfl) gb k__law_draw k__law_pick
  have k__law_bent_text := c_law_bent_text (P := P) (w := w) (base := base) (df 40 rfl) gb k__law_draw k__law_pick
  have k__law_right := c_law_right (P := P) (w := w) (base := base) (df 44 rfl) gb k__law_any_deed k__law_any_question k__law_deed_text k__law_question_text k_deed_text k_question_text k_read_deed k_read_question k__law_draw k_answer_text k__law_answer_text k__law_bent_text k__law_read k__law_read_words
  have k_law := c_law (P := P) (w := w) (base := base) (df 45 rfl) gb k__law_vat k__law_right k__law_read
  exact k_law
end
/-! ### the end -/
section
variable {P : Program} {w : World} {K : PySem.W.Frag} {mg mb : Str → Option Value} {a fa : Addr} {s : Shared} {H : Hp} {its : List Value} {ns : List Int}
abbrev scr (its : List Value) : Obj := { cls := .type "list", data := .seq its.toArray }
/-- at most the script is seen, and only as it stands -/
structure Seen (a : Addr) (H : Hp) : Prop where
  frz : ∀ b, H b = none ∨ ∃ o xs, H b = some (.frz o (.lst xs))
  one : ∀ b u, H b = some u → b = a
def Ended (s : Shared) (r : Result) (z : Shared) : Prop := r = .ok (.ret (.bool true)) ∧ OldK s.heap z.heap ∧ z.os = s.os ∧ AllBare z.gens
theorem hid_ns (S : Seen a H) (ha : s.heap.get? a = some (scr its)) {b : Addr} {m : Str → Option Value} (x : s.heap.Ns b m) : (hidT s.heap H).Ns b m := by
  obtain ⟨o, es, ep, x1, x2, x3⟩ := x
  refine ⟨o, es, ep, hidT_get x1 ?_, x2, x3⟩
  match hq : H b with
  | none => rfl
  | some u =>
    have z := S.one b u hq
    subst z
    rw [x1] at ha
    cases ha
    cases x2
theorem hid_in (S : Seen a H) (kin : K.In s.heap) (hK : ∀ u, H a = some u → K.lookup a = none) : K.In (hidT s.heap H) := fun b o x => hidT_get (kin b o x) (by
  match hq : H b with
  | none => rfl
  | some u =>
    have z := S.one b u hq
    subst z
    rw [hK u hq] at x
    cases x)
theorem end_seen (cal : ∀ base : Heap, CalG P w K mg base 10 "law" (SpLaw K)) (hfa : mg "law" = some (.ref fa)) (kin : K.In s.heap) (nsG : s.heap.Ns mainGlobals mg) (nsB : s.heap.Ns builtinsNs mb) (bb : ∀ x : Str, x ≠ "__name__" → mb x = bootBuiltins x) (lim : s.heap.NoLimit) (gen : s.gens = #[])
    (ha : s.heap.get? a = some (scr its)) (S : Seen a H) (hS : SqL K H a (ns.map V.int)) (hok : HOk P w H s.heap) (hK : ∀ u, H a = some u → K.lookup a = none) :
    codeAny (model P w) callerA (.call (.ref fa) ⟨[.ref a], []⟩) (Ended s) s := by
  obtain ⟨f, fd, ps, F, hm, _, bd⟩ := (cal (hidT s.heap H)).ex
  rw [hfa] at hm
  cases hm
  have kinB := hid_in S kin hK
  obtain ⟨mc, l1, l2⟩ := lim
  have md : Mod K mg (hidT s.heap H) := ⟨kinB, hid_ns S ha nsG, ⟨mb, hid_ns S ha nsB, bb⟩, mc, hid_ns S ha l1, l2⟩
  have ev : Env0 P w K mg (hidT s.heap H) callerA [] s H := ⟨rfl, md, fun b o x => of_hidT x, Nat.le_of_eq (hidT_size _ _), trivial, fun b x => (nomatch x), hok, .of_eq gen⟩
  have asked : SpLaw K [.ref a] H (fun v _ => v = .bl true) C8.E0 := ⟨a, ns, rfl, hS, fun _ => rfl⟩
  have bound := bd s [.ref a] kin (by have := F.len _ _ _ _ asked; rw [← this] <;> rfl)
  rw [List.append_nil] at bound
  refine codeAny_mono (F.go callerA [] s H [.ref a] [.ref a] _ (by rfl) ⟨by decide, by decide, by decide⟩ ev bound (.cons rfl .nil) asked) fun r z x => ?_
  match r, x with
  | .ok (.ret u), ⟨v, H2, sameOs, bare, un, ok2, rv, isT⟩ =>
    subst isT
    cases rv
    refine ⟨rfl, OldK.of_keep fun b o x1 => ?_, sameOs, bare⟩
    rcases S.frz b with q | ⟨o2, xs, q⟩
    · exact un.keep b o x1 q (fun z => (nomatch z)) (by simp)
    · obtain ⟨y1, _⟩ := hok b _ q
      obtain ⟨y2, _⟩ := ok2 b _ (un.frzs b o2 _ q)
      rw [x1] at y1
      cases y1
      exact y2
theorem end_call (cal : ∀ base : Heap, CalG P w K mg base 10 "law" (SpLaw K)) (hfa : mg "law" = some (.ref fa)) (kin : K.In s.heap) (nsG : s.heap.Ns mainGlobals mg) (nsB : s.heap.Ns builtinsNs mb) (bb : ∀ x : Str, x ≠ "__name__" → mb x = bootBuiltins x) (lim : s.heap.NoLimit) (gen : s.gens = #[])
    (ha : s.heap.get? a = some (scr its)) (hits : IntsAre its ns) (hl : ns.length ≤ sizeLine) : codeAny (model P w) callerA (.call (.ref fa) ⟨[.ref a], []⟩) (Ended s) s := by
  have vals := vals_ints hits
  have many := hits.length
  match hk : K.lookup a with
  | some o =>
    have x := kin a o hk
    rw [ha] at x
    cases x
    exact end_seen (H := fun _ => none) cal hfa kin nsG nsB bb lim gen ha ⟨fun _ => .inl rfl, fun _ _ q => (nomatch q)⟩ (.inr ⟨_, its.toArray, _, hk, rfl, rfl, rfl, by rw [List.size_toArray, many]; exact hl, by simpa using vals⟩) (fun _ _ q => (nomatch q)) fun _ q => (nomatch q)
  | none =>
    have one : ∀ {b : Addr} {u : HO}, (if b = a then some (HO.frz (scr its) (.lst (ns.map V.int))) else none) = some u → b = a ∧ u = .frz (scr its) (.lst (ns.map V.int)) := fun {b u} q => by
      by_cases hb : b = a
      · rw [if_pos hb] at q
        exact ⟨hb, (Option.some.inj q).symm⟩
      · rw [if_neg hb] at q
        cases q
    refine end_seen (H := fun b => if b = a then some (.frz (scr its) (.lst (ns.map V.int))) else none) cal hfa kin nsG nsB bb lim gen ha ⟨fun b => ?_, fun b u q => (one q).1⟩ (.inl (.inr ⟨scr its, if_pos rfl⟩)) (fun b u q => ?_) fun _ _ => hk
    · by_cases hb : b = a
      · exact .inr ⟨_, _, if_pos hb⟩
      · exact .inl (if_neg hb)
    · obtain ⟨z1, z2⟩ := one q
      subst z1 z2
      exact ⟨ha, by rw [List.length_map]; exact hl, its, _, vals, ha⟩
end
end K9
open PySem PySem.W PySem.Calls PyProof.Rows
theorem PySem.Challenge.cw_stillread_k89_whole_texts_of_deeds_and_q_holds : PySem.Challenge.rw_stillread_k89_whole_texts_of_deeds_and_q.Holds := by
  w_on; o_law
  refine HandSHeadRun.head_any (r := K9.R9) (q := K9.q9) (H := K9.hook9) (ob := K9.look9) (M := 4000) (loose := K9.lo9) (d := HandSHeadRun.topDef K9.R9.prog 83) (kwd := []) K9.look9_eq
    (by kernel_rfl) (fun s => by kernel_rfl) K9.run9 (by kernel_rfl) (by kernel_rfl) (by kernel_rfl) (by rfl) (by first | assumption | decide +kernel) (by decide +kernel) ⟨rfl, rfl, rfl, rfl, rfl, by decide +kernel⟩ ?hw ?hc
  case hw => w_witness2
  case hc =>
    refine Att.attach_call (l := PySem.Challenge.rw_stillread_k89_whole_texts_of_deeds_and_q) (n := 63) rfl (by kernel_rfl) fun w s0 s1 mg mb fa o pm cd doc a vs ns G Y ho hd hcd hmg hobj hints hlen hg => ?_
    obtain ⟨K, kin, c⟩ := Y
    have hmg2 : mg ("law" : PySem.Str) = some (.ref fa) := by
      have e : (HandSHeadRun.topDef K9.R9.prog 83).name = ("law" : PySem.Str) := by kernel_rfl
      rw [← e]
      exact hmg
    exact K9.end_call (fun base => K9.law_all base c kin G.T.g (by kernel_rfl) (by kernel_rfl)) hmg2 kin G.T.g G.T.b G.T.builtins G.T.nolimit hg hobj hints (Nat.le_trans hlen (by decide))

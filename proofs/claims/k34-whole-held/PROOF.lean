import PyProof.Rows.All
import Wide.All
import OpenK.AllK
import Wide.FinOn
import PyProof.DictUpdate
import PyProof.FactsAll.dict_3
import PyProof.FactsAll.dict_4
import KE.KRevIter
import HandS.ForMost
import HandS.SetFor
import HandS.RevTup
import HandS.Rev
import KE.KDictList
import KE.KStateDown
import Lean
import HandS.Defaults
import HandS.Head0
import HandS.Head1
import HandS.Head2
import HandS.HeadEnd
import HandS.HeadHook1
import HandS.HeadHook2
import PySem.Challenge.RW_stitchroom_k34_whole_held
import HandS.RevRange
import HandS.Deep
import HandS.Sort
import HandS.TupLen
import HandS.Conv
import HandS.IsInst
import HandS.Evl
import HandS.Walk
import HandS.SortRule
set_option autoImplicit false
namespace K34

abbrev Name := Nat × Nat

/-- the names of the first n loops of row r -/
def nmRow (r n : Nat) : List Name := (List.range n).map fun p => (r, p)
theorem nmRow_succ (r n : Nat) : nmRow r (n + 1) = nmRow r n ++ [(r, n)] := by
  unfold nmRow
  rw [List.range_succ, List.map_append]
  rfl
theorem mem_nmRow {r n : Nat} {m : Name} : m ∈ nmRow r n ↔ m.1 = r ∧ m.2 < n := by
  unfold nmRow
  rw [List.mem_map]
  constructor
  · rintro ⟨p, hp, rfl⟩
    exact ⟨rfl, List.mem_range.mp hp⟩
  · rintro ⟨h1, h2⟩
    exact ⟨m.2, List.mem_range.mpr h2, by rw [← h1]⟩
theorem length_nmRow (r n : Nat) : (nmRow r n).length = n := by simp [nmRow]
theorem getElem?_nmRow {r n i : Nat} (h : i < n) : (nmRow r n)[i]? = some (r, i) := by
  simp [nmRow, h]

abbrev Rows := List (List (List Name))
/-- how many loops row r has -/
def wid (rows : Rows) (r : Nat) : Nat := (rows.getD r []).length
/-- a loop's parents -/
def par (rows : Rows) (n : Name) : List Name := (rows.getD n.1 []).getD n.2 []
/-- the names of the first k rows -/
def namesN (rows : Rows) : Nat → List Name
  | 0 => []
  | k + 1 => namesN rows k ++ nmRow k (wid rows k)
def names (rows : Rows) : List Name := namesN rows rows.length
theorem mem_namesN {rows : Rows} {k : Nat} {m : Name} : m ∈ namesN rows k ↔ m.1 < k ∧ m.2 < wid rows m.1 := by
  induction k with
  | zero => simp [namesN]
  | succ k ih =>
    show m ∈ namesN rows k ++ nmRow k (wid rows k) ↔ _
    rw [List.mem_append, ih, mem_nmRow]
    constructor
    · rintro (⟨h1, h2⟩ | ⟨h1, h2⟩)
      · exact ⟨by omega, h2⟩
      · exact ⟨by omega, by rw [h1]; exact h2⟩
    · rintro ⟨h1, h2⟩
      by_cases e : m.1 = k
      · exact .inr ⟨e, by rw [← e]; exact h2⟩
      · exact .inl ⟨by omega, h2⟩
theorem wid_out {rows : Rows} {r : Nat} (h : rows.length ≤ r) : wid rows r = 0 := by
  unfold wid
  rw [List.getD_eq_getElem?_getD, List.getElem?_eq_none h]
  rfl
theorem mem_names {rows : Rows} {m : Name} : m ∈ names rows ↔ m.2 < wid rows m.1 := by
  unfold names
  rw [mem_namesN]
  constructor
  · exact fun h => h.2
  · intro h
    refine ⟨?_, h⟩
    by_cases e : m.1 < rows.length
    · exact e
    · rw [wid_out (by omega)] at h
      omega
theorem nodup_nmRow (r n : Nat) : (nmRow r n).Nodup := by
  induction n with
  | zero => exact List.nodup_nil
  | succ n ih =>
    rw [nmRow_succ]
    refine List.nodup_append.mpr ⟨ih, by simp, ?_⟩
    intro a ha b hb e
    have hb : b = (r, n) := by simpa using hb
    subst hb; subst e
    exact absurd (mem_nmRow.mp ha).2 (Nat.lt_irrefl _)
theorem nodup_namesN (rows : Rows) (k : Nat) : (namesN rows k).Nodup := by
  induction k with
  | zero => exact List.nodup_nil
  | succ k ih =>
    refine List.nodup_append.mpr ⟨ih, nodup_nmRow _ _, ?_⟩
    intro a ha b hb e
    subst e
    have h1 := (mem_namesN.mp ha).1
    have h2 := (mem_nmRow.mp hb).1
    omega
theorem nodup_names (rows : Rows) : (names rows).Nodup := nodup_namesN _ _

/-- the edges (parent, loop) of some loops -/
def eNames (rows : Rows) (ns : List Name) : List (Name × Name) := ns.flatMap fun m => (par rows m).map fun p => (p, m)
theorem eNames_append (rows : Rows) (a b : List Name) : eNames rows (a ++ b) = eNames rows a ++ eNames rows b := by
  unfold eNames; rw [List.flatMap_append]
theorem eNames_one (rows : Rows) (m : Name) : eNames rows [m] = (par rows m).map fun p => (p, m) := by
  unfold eNames; simp
/-- the drawers by a list of edges -/
def drw (E : List (Name × Name)) (n : Name) : List Name := (E.filter fun e => e.1 == n).map fun e => e.2
theorem drw_nil (n : Name) : drw [] n = [] := rfl
theorem drw_snoc (E : List (Name × Name)) (p m n : Name) : drw (E ++ [(p, m)]) n = if p = n then drw E n ++ [m] else drw E n := by
  unfold drw
  rw [List.filter_append, List.map_append]
  by_cases h : p = n
  · subst h
    simp
  · simp [h]
theorem mem_drw {E : List (Name × Name)} {n m : Name} : m ∈ drw E n ↔ (n, m) ∈ E := by
  unfold drw
  rw [List.mem_map]
  constructor
  · rintro ⟨e, he, rfl⟩
    obtain ⟨h1, h2⟩ := List.mem_filter.mp he
    have : e.1 = n := by simpa using h2
    rw [← this]
    exact h1
  · intro h
    exact ⟨(n, m), List.mem_filter.mpr ⟨h, by simp⟩, rfl⟩
/-- all drawers of a loop -/
def abv (rows : Rows) (n : Name) : List Name := drw (eNames rows (names rows)) n
theorem mem_eNames {rows : Rows} {ns : List Name} {p m : Name} : (p, m) ∈ eNames rows ns ↔ m ∈ ns ∧ p ∈ par rows m := by
  unfold eNames
  rw [List.mem_flatMap]
  constructor
  · rintro ⟨a, ha, h⟩
    obtain ⟨q, hq, e⟩ := List.mem_map.mp h
    cases e
    exact ⟨ha, hq⟩
  · rintro ⟨h1, h2⟩
    exact ⟨m, h1, List.mem_map.mpr ⟨p, h2, rfl⟩⟩
theorem mem_abv {rows : Rows} {n m : Name} : m ∈ abv rows n ↔ m ∈ names rows ∧ n ∈ par rows m := by
  unfold abv
  rw [mem_drw, mem_eNames]

/-- the parents of each loop are loops of earlier rows -/
def Wf (rows : Rows) : Prop := ∀ m, m ∈ names rows → ∀ p, p ∈ par rows m → p.1 < m.1 ∧ p ∈ names rows

/-! ### what comes undone -/
def flStep (rows : Rows) (loose ends : Name → Prop) [DecidablePred loose] [DecidablePred ends] (acc : List Name) (n : Name) : List Name :=
  if loose n then acc ++ [n]
  else if ¬ ends n ∧ ∀ d ∈ abv rows n, d ∈ acc then acc ++ [n] else acc
section
variable {rows : Rows} {loose ends : Name → Prop} [DecidablePred loose] [DecidablePred ends]
theorem flStep_mem {acc : List Name} {n m : Name} : m ∈ flStep rows loose ends acc n ↔ m ∈ acc ∨ (m = n ∧ (loose n ∨ (¬ ends n ∧ ∀ d ∈ abv rows n, d ∈ acc))) := by
  unfold flStep
  by_cases h1 : loose n
  · rw [if_pos h1, List.mem_append, List.mem_singleton]
    exact ⟨fun h => h.imp id fun e => ⟨e, .inl h1⟩, fun h => h.imp id fun e => e.1⟩
  · rw [if_neg h1]
    by_cases h2 : ¬ ends n ∧ ∀ d ∈ abv rows n, d ∈ acc
    · rw [if_pos h2, List.mem_append, List.mem_singleton]
      exact ⟨fun h => h.imp id fun e => ⟨e, .inr h2⟩, fun h => h.imp id fun e => e.1⟩
    · rw [if_neg h2]
      refine ⟨.inl, fun h => h.elim id fun e => ?_⟩
      rcases e.2 with q | q
      · exact absurd q h1
      · exact absurd q h2
end
def fl (rows : Rows) (loose ends : Name → Prop) [DecidablePred loose] [DecidablePred ends] (l : List Name) : List Name := l.foldl (flStep rows loose ends) []
section
variable {rows : Rows} {loose ends : Name → Prop} [DecidablePred loose] [DecidablePred ends]
theorem fl_snoc (l : List Name) (n : Name) : fl rows loose ends (l ++ [n]) = flStep rows loose ends (fl rows loose ends l) n := by
  unfold fl; rw [List.foldl_append]; rfl
theorem snoc_ind {α : Type} {P : List α → Prop} (h0 : P []) (hs : ∀ l a, P l → P (l ++ [a])) (l : List α) : P l := by
  have key : ∀ r : List α, P r.reverse := fun r => by
    induction r with
    | nil => exact h0
    | cons a r ih => rw [List.reverse_cons]; exact hs _ _ ih
  have := key l.reverse
  rwa [List.reverse_reverse] at this
theorem fl_sub (l : List Name) : ∀ m ∈ fl rows loose ends l, m ∈ l := by
  induction l using snoc_ind with
  | h0 => intro m hm; exact absurd hm (by simp [fl])
  | hs l n ih =>
    intro m hm
    rw [fl_snoc, flStep_mem] at hm
    rcases hm with hm | ⟨rfl, _⟩
    · exact List.mem_append_left _ (ih m hm)
    · simp
/-- the loops are looked at such that all drawers of each stand ahead of it -/
theorem fl_fix (l : List Name) (hn : l.Nodup) (ho : ∀ (a b : List Name) (n : Name), l = a ++ n :: b → ∀ d ∈ abv rows n, d ∈ a) :
    ∀ n, n ∈ fl rows loose ends l ↔ n ∈ l ∧ (loose n ∨ (¬ ends n ∧ ∀ d ∈ abv rows n, d ∈ fl rows loose ends l)) := by
  induction l using snoc_ind with
  | h0 => intro n; simp [fl]
  | hs l x ih =>
    have hn' := List.nodup_append.mp hn
    have hx : x ∉ l := fun h => hn'.2.2 x h x (by simp) rfl
    have ih' := ih hn'.1 fun a b n e d hd => ho a (b ++ [x]) n (by rw [e]; simp) d hd
    have hax : ∀ d ∈ abv rows x, d ∈ l := ho l [] x rfl
    intro n
    rw [fl_snoc, flStep_mem]
    by_cases e : n = x
    · subst e
      have hnf : n ∉ fl rows loose ends l := fun h => hx (fl_sub l n h)
      have hdd : ∀ d, d ∈ abv rows n → (d ∈ flStep rows loose ends (fl rows loose ends l) n ↔ d ∈ fl rows loose ends l) := fun d hd => by
        rw [flStep_mem]
        refine ⟨fun h => h.elim id fun q => ?_, .inl⟩
        have := hax d hd
        rw [q.1] at this
        exact absurd this hx
      constructor
      · rintro (h | ⟨_, h⟩)
        · exact absurd h hnf
        · refine ⟨by simp, h.imp id fun q => ⟨q.1, fun d hd => (hdd d hd).mpr (q.2 d hd)⟩⟩
      · rintro ⟨_, h⟩
        exact .inr ⟨rfl, h.imp id fun q => ⟨q.1, fun d hd => (hdd d hd).mp (q.2 d hd)⟩⟩
    · have hdd : n ∈ l → ∀ d, d ∈ abv rows n → (d ∈ flStep rows loose ends (fl rows loose ends l) x ↔ d ∈ fl rows loose ends l) := fun hl d hd => by
        rw [flStep_mem]
        refine ⟨fun h => h.elim id fun q => ?_, .inl⟩
        obtain ⟨a, b, hab⟩ := List.append_of_mem hl
        have := ho a (b ++ [x]) n (by rw [hab]; simp) d hd
        rw [q.1] at this
        exact absurd (by rw [hab]; exact List.mem_append_left _ this) hx
      rw [ih' n]
      constructor
      · rintro (⟨h1, h2⟩ | ⟨h, _⟩)
        · exact ⟨List.mem_append_left _ h1, h2.imp id fun q => ⟨q.1, fun d hd => (hdd h1 d hd).mpr (q.2 d hd)⟩⟩
        · exact absurd h e
      · rintro ⟨h1, h2⟩
        have h1 : n ∈ l := (List.mem_append.mp h1).resolve_right (by simp [e])
        exact .inl ⟨h1, h2.imp id fun q => ⟨q.1, fun d hd => (hdd h1 d hd).mp (q.2 d hd)⟩⟩
end
/-- names are told row by row -/
theorem namesN_pos {rows : Rows} {k : Nat} {a b : List Name} {n m : Name} (h : namesN rows k = a ++ n :: b) (hm : m ∈ a) : m.1 < n.1 ∨ (m.1 = n.1 ∧ m.2 < n.2) := by
  have key : (namesN rows k).Pairwise fun x y => x.1 < y.1 ∨ (x.1 = y.1 ∧ x.2 < y.2) := by
    clear h hm
    induction k with
    | zero => exact List.Pairwise.nil
    | succ k ih =>
      refine List.pairwise_append.mpr ⟨ih, ?_, ?_⟩
      · generalize wid rows k = w
        induction w with
        | zero => exact List.Pairwise.nil
        | succ w iw =>
          rw [nmRow_succ]
          refine List.pairwise_append.mpr ⟨iw, by simp, ?_⟩
          intro x hx y hy
          have hy : y = (k, w) := by simpa using hy
          subst hy
          exact .inr (mem_nmRow.mp hx)
      · intro x hx y hy
        exact .inl (by rw [(mem_nmRow.mp hy).1]; exact (mem_namesN.mp hx).1)
  rw [h] at key
  exact (List.pairwise_append.mp key).2.2 m hm n (by simp)
/-- of the names from the last one on, each one's drawers stand ahead -/
theorem rev_ahead {rows : Rows} (w : Wf rows) : ∀ (a b : List Name) (n : Name), (names rows).reverse = a ++ n :: b → ∀ d ∈ abv rows n, d ∈ a := by
  intro a b n e d hd
  obtain ⟨h1, h2⟩ := mem_abv.mp hd
  obtain ⟨h3, _⟩ := w d h1 n h2
  have hd' : d ∈ a ++ n :: b := by rw [← e]; exact List.mem_reverse.mpr h1
  rcases List.mem_append.mp hd' with q | q
  · exact q
  · rcases List.mem_cons.mp q with q | q
    · rw [q] at h3; exact absurd h3 (Nat.lt_irrefl _)
    · have e' : names rows = b.reverse ++ n :: a.reverse := by
        have := congrArg List.reverse e
        rw [List.reverse_reverse] at this
        rw [this]; simp
      have := namesN_pos e' (List.mem_reverse.mpr q)
      omega
/-- what comes undone -/
def gone (rows : Rows) (loose ends : Name → Prop) [DecidablePred loose] [DecidablePred ends] : List Name := fl rows loose ends (names rows).reverse
theorem gone_iff {rows : Rows} {loose ends : Name → Prop} [DecidablePred loose] [DecidablePred ends] (w : Wf rows) (n : Name) :
    n ∈ gone rows loose ends ↔ n ∈ names rows ∧ (loose n ∨ (¬ ends n ∧ ∀ d ∈ abv rows n, d ∈ gone rows loose ends)) := by
  have := fl_fix (rows := rows) (loose := loose) (ends := ends) (names rows).reverse ((List.reverse_perm _).nodup_iff.mpr (nodup_names rows)) (rev_ahead w) n
  rw [List.mem_reverse] at this
  exact this
/-- what is told undone: from the last row to the first, in each by places -/
def toldN (rows : Rows) (G : List Name) : Nat → List Name
  | 0 => []
  | k + 1 => ((nmRow k (wid rows k)).filter fun n => decide (n ∈ G)) ++ toldN rows G k
def told (rows : Rows) (G : List Name) : List Name := toldN rows G rows.length
theorem mem_toldN {rows : Rows} {G : List Name} {k : Nat} {m : Name} : m ∈ toldN rows G k ↔ m ∈ namesN rows k ∧ m ∈ G := by
  induction k with
  | zero => simp [toldN, namesN]
  | succ k ih =>
    show m ∈ _ ++ toldN rows G k ↔ m ∈ namesN rows k ++ _ ∧ _
    rw [List.mem_append, List.mem_append, ih, List.mem_filter, decide_eq_true_eq]
    constructor
    · rintro (⟨h1, h2⟩ | ⟨h1, h2⟩)
      · exact ⟨.inr h1, h2⟩
      · exact ⟨.inl h1, h2⟩
    · rintro ⟨h1 | h1, h2⟩
      · exact .inr ⟨h1, h2⟩
      · exact .inl ⟨h1, h2⟩
theorem mem_told {rows : Rows} {G : List Name} {m : Name} : m ∈ told rows G ↔ m ∈ names rows ∧ m ∈ G := mem_toldN
theorem nodup_told (rows : Rows) (G : List Name) : (told rows G).Nodup := by
  unfold told
  generalize rows.length = k
  induction k with
  | zero => exact List.nodup_nil
  | succ k ih =>
    refine List.nodup_append.mpr ⟨(nodup_nmRow _ _).sublist List.filter_sublist, ih, ?_⟩
    intro a ha b hb e
    subst e
    have h1 := (mem_nmRow.mp (List.mem_filter.mp ha).1).1
    have h2 := (mem_namesN.mp (mem_toldN.mp hb).1).1
    omega
end K34
set_option autoImplicit true
set_option autoImplicit false
namespace K34

/-! ### stitches -/
inductive W | w | x | y | z
  deriving DecidableEq
def W.code : W → Nat
  | .w => 119 | .x => 120 | .y => 121 | .z => 122
def allW : List W := [.w, .x, .y, .z]
theorem mem_allW (k : W) : k ∈ allW := by cases k <;> decide
def sumW (f : W → Nat) : Nat := f .w + f .x + f .y + f .z

inductive Stch
  | plain (f : Bool) | slip | over
  | lean (m : Fin 3) (r : Bool) (f : Bool)
  | grow (m : Fin 3) (f : Bool)
  | cross (a b : Fin 4) (v : Bool) (f : Bool)
  | off | keep (k : W) | fetch (k : W)
  deriving DecidableEq
inductive Tie | same (p : Nat) | new (ps : List Nat) | frm (k : W)
  deriving DecidableEq
def Stch.takes : Stch → Nat
  | .plain _ => 1 | .slip => 1 | .over => 0
  | .lean m _ _ => m.val + 2
  | .grow _ _ => 1
  | .cross a b _ _ => (a.val + 1) + (b.val + 1)
  | .off => 1 | .keep _ => 1 | .fetch _ => 0
/-- the parents of the new loops, where a stitch draws through all that it takes -/
def Stch.draws : Stch → Option (List (List Nat))
  | .plain _ => some [[0]]
  | .over => some [[]]
  | .lean m r _ => some [if r then (List.range (m.val + 2)).reverse else List.range (m.val + 2)]
  | .grow m _ => some (List.replicate (m.val + 2) [0])
  | .cross a b _ _ => some (((List.range (b.val + 1)).map fun k => [a.val + 1 + k]) ++ ((List.range (a.val + 1)).map fun k => [k]))
  | _ => none
def Stch.ties (s : Stch) : List Tie :=
  match s with
  | .slip => [.same 0]
  | .off => []
  | .keep _ => []
  | .fetch k => [.frm k]
  | s => (s.draws.getD []).map Tie.new
/-- none: cast off; some k: kept on k -/
def Stch.ends : Stch → List (Nat × Option W)
  | .off => [(0, none)]
  | .keep k => [(0, some k)]
  | _ => []
def Stch.isF (k : W) : Stch → Nat
  | .fetch j => if j = k then 1 else 0
  | _ => 0
def Stch.isH (k : W) : Stch → Nat
  | .keep j => if j = k then 1 else 0
  | _ => 0
def Stch.isB : Stch → Nat
  | .off => 1
  | _ => 0
def Stch.news (s : Stch) : Nat := (s.draws.getD []).length
theorem news_le (s : Stch) : s.news ≤ 8 := by
  cases s <;> simp [Stch.news, Stch.draws] <;> omega
def sumS (f : Stch → Nat) (l : List Stch) : Nat := (l.map f).sum
theorem sumS_nil (f : Stch → Nat) : sumS f [] = 0 := rfl
theorem sumS_cons (f : Stch → Nat) (s : Stch) (l : List Stch) : sumS f (s :: l) = f s + sumS f l := by simp [sumS]
theorem sumS_append (f : Stch → Nat) (a b : List Stch) : sumS f (a ++ b) = sumS f a + sumS f b := by simp [sumS]

/-! ### the needles -/
structure Nd where
  left : List Name
  right : List Name
  held : W → List Name
  gone : List Name
  made : Rows
  back : Bool
structure Mid where
  left : List Name
  right : List Name
  fresh : List (List Name)
  stock : W → List Name
  put : W → List Name
  off : List Name
def fac {α : Type} (b : Bool) (l : List α) : List α := if b then l.reverse else l
theorem mem_fac {α : Type} {b : Bool} {l : List α} {x : α} : x ∈ fac b l ↔ x ∈ l := by
  cases b <;> simp [fac]
theorem length_fac {α : Type} (b : Bool) (l : List α) : (fac b l).length = l.length := by
  cases b <;> simp [fac]
theorem count_fac (b : Bool) (l : List Name) (n : Name) : (fac b l).count n = l.count n := by
  cases b <;> simp [fac]
def nmd (R : Nat) (back : Bool) (many i : Nat) : Name := (R, if back then many - 1 - i else i)
section
variable (R : Nat) (back : Bool) (many : Nat)
def tieStep (taken : List Name) (m : Mid) : Tie → Mid
  | .same p => { m with right := m.right ++ [taken.getD p (0, 0)] }
  | .new ps => { m with right := m.right ++ [nmd R back many m.fresh.length], fresh := m.fresh ++ [fac back (ps.map fun p => taken.getD p (0, 0))] }
  | .frm k => { m with right := m.right ++ [(m.stock k).headD (0, 0)], stock := fun j => if j = k then (m.stock k).tail else m.stock j }
def endStep (taken : List Name) (m : Mid) : Nat × Option W → Mid
  | (p, none) => { m with off := m.off ++ [taken.getD p (0, 0)] }
  | (p, some k) => { m with put := fun j => if j = k then m.put k ++ [taken.getD p (0, 0)] else m.put j }
def tiesTo (s : Stch) (m : Mid) (j : Nat) : Mid := (s.ties.take j).foldl (tieStep R back many (m.left.take s.takes)) { m with left := m.left.drop s.takes }
def endsTo (s : Stch) (m : Mid) (j : Nat) : Mid := (s.ends.take j).foldl (endStep (m.left.take s.takes)) (tiesTo R back many s m s.ties.length)
def stStep (m : Mid) (s : Stch) : Mid := endsTo R back many s m s.ends.length
def rowTo (m : Mid) (row : List Stch) (i : Nat) : Mid := (row.take i).foldl (stStep R back many) m
end
theorem foldl_take_succ {α β : Type} (f : β → α → β) (b : β) {l : List α} {i : Nat} {a : α} (h : l[i]? = some a) : (l.take (i + 1)).foldl f b = f ((l.take i).foldl f b) a := by
  rw [List.take_add_one, h, List.foldl_append]
  rfl
theorem rowTo_succ {R : Nat} {back : Bool} {many : Nat} {m : Mid} {row : List Stch} {i : Nat} {s : Stch} (h : row[i]? = some s) : rowTo R back many m row (i + 1) = stStep R back many (rowTo R back many m row i) s :=
  foldl_take_succ _ _ h
def namedIn (row : List Stch) (k : W) : Bool := row.any fun s => decide (0 < s.isF k) || decide (0 < s.isH k)
def manyIn (row : List Stch) : Nat := sumS Stch.news row
def startMid (nd : Nd) (row : List Stch) : Mid :=
  { left := nd.left, right := nd.right, fresh := [], stock := fun k => if namedIn row k then fac nd.back (nd.held k) else [], put := fun _ => [], off := [] }
def endMid (nd : Nd) (row : List Stch) : Mid := rowTo nd.made.length nd.back (manyIn row) (startMid nd row) row row.length
def work (nd : Nd) (row : List Stch) : Nd :=
  let m := endMid nd row
  { left := m.right.reverse, right := m.left.reverse, held := fun k => if namedIn row k then fac nd.back (m.put k) else nd.held k,
    gone := nd.gone ++ m.off, made := nd.made ++ [fac nd.back m.fresh], back := !nd.back }
def newNd (n : Nat) : Nd := { left := (List.range n).map fun k => (0, k), right := [], held := fun _ => [], gone := [], made := [List.replicate n []], back := false }

/-! ### the effect of one stitch -/
theorem ties_draws {R : Nat} {back : Bool} {many : Nat} {taken : List Name} : ∀ (pss : List (List Nat)) (m : Mid), (pss.map Tie.new).foldl (tieStep R back many taken) m =
    { m with right := m.right ++ (List.range pss.length).map (fun i => nmd R back many (m.fresh.length + i)), fresh := m.fresh ++ pss.map fun ps => fac back (ps.map fun p => taken.getD p (0, 0)) } := by
  intro pss
  induction pss with
  | nil => intro m; simp
  | cons ps pss ih =>
    intro m
    rw [List.map_cons, List.foldl_cons, ih]
    simp only [tieStep]
    congr 1
    · rw [List.length_cons, List.range_succ_eq_map, List.map_cons, List.append_assoc, List.map_map]
      simp only [List.length_append, List.length_singleton, List.singleton_append, Function.comp_def, Nat.add_zero]
      congr 2
      refine List.map_congr_left fun i _ => ?_
      congr 1
      omega
    · simp
theorem stStep_draw {R : Nat} {back : Bool} {many : Nat} {m : Mid} {s : Stch} {pss : List (List Nat)} (h : s.draws = some pss) : stStep R back many m s =
    { m with left := m.left.drop s.takes, right := m.right ++ (List.range pss.length).map (fun i => nmd R back many (m.fresh.length + i)),
             fresh := m.fresh ++ pss.map fun ps => fac back (ps.map fun p => (m.left.take s.takes).getD p (0, 0)) } := by
  have e1 : s.ties = pss.map Tie.new := by
    cases s <;> simp_all [Stch.draws, Stch.ties]
  have e2 : s.ends = [] := by
    cases s <;> simp_all [Stch.draws, Stch.ends]
  unfold stStep endsTo tiesTo
  rw [e2, List.take_length, e1, ties_draws]
  rfl

/-! ### what holds within a row -/
def drawn (rows : Rows) (n : Name) : Prop := ∃ m, m ∈ names rows ∧ n ∈ par rows m
def drM (rows : Rows) (m : Mid) (n : Name) : Prop := drawn rows n ∨ ∃ l, l ∈ m.fresh ∧ n ∈ l
/-- in how many places a name lies -/
def cM (base : Name → Nat) (m : Mid) (n : Name) : Nat :=
  m.left.count n + m.right.count n + sumW (fun k => (m.stock k).count n) + sumW (fun k => (m.put k).count n) + m.off.count n + base n
structure MidOk (rows : Rows) (base : Name → Nat) (back : Bool) (many : Nat) (m : Mid) : Prop where
  old : ∀ n, n ∈ names rows → (drM rows m n ∧ cM base m n = 0) ∨ (¬ drM rows m n ∧ cM base m n = 1)
  new : ∀ i, i < m.fresh.length → cM base m (nmd rows.length back many i) = 1
  els : ∀ n, n ∉ names rows → (∀ i, i < m.fresh.length → n ≠ nmd rows.length back many i) → cM base m n = 0
  lft : ∀ n, n ∈ m.left → n ∈ names rows
  frs : ∀ l, l ∈ m.fresh → ∀ n, n ∈ l → n ∈ names rows
theorem nmd_inj {R : Nat} {back : Bool} {many i j : Nat} (hi : i < many) (hj : j < many) (e : nmd R back many i = nmd R back many j) : i = j := by
  unfold nmd at e
  cases back
  · simpa using e
  · simp at e
    omega
theorem nmd_not {rows : Rows} {back : Bool} {many i : Nat} : nmd rows.length back many i ∉ names rows := fun h => by
  have h1 := (mem_namesN.mp h).1
  unfold nmd at h1
  exact absurd h1 (Nat.lt_irrefl _)
theorem nodup_nmds (R : Nat) (back : Bool) (many f k : Nat) (h : f + k ≤ many) : ((List.range k).map fun i => nmd R back many (f + i)).Nodup := by
  induction k with
  | zero => exact List.nodup_nil
  | succ k ih =>
    rw [List.range_succ, List.map_append]
    refine List.nodup_append.mpr ⟨ih (by omega), by simp, ?_⟩
    intro a ha b hb e
    obtain ⟨i, hi, rfl⟩ := List.mem_map.mp ha
    have hi := List.mem_range.mp hi
    have hb : b = nmd R back many (f + k) := by simpa using hb
    rw [hb] at e
    have := nmd_inj (by omega) (by omega) e
    omega
theorem count_nmds {R : Nat} {back : Bool} {many f k : Nat} (h : f + k ≤ many) (n : Name) :
    (n ∈ (List.range k).map (fun i => nmd R back many (f + i)) ∧ ((List.range k).map fun i => nmd R back many (f + i)).count n = 1) ∨
    (n ∉ (List.range k).map (fun i => nmd R back many (f + i)) ∧ ((List.range k).map fun i => nmd R back many (f + i)).count n = 0) := by
  have := (nodup_nmds R back many f k h).count (a := n)
  by_cases e : n ∈ (List.range k).map (fun i => nmd R back many (f + i))
  · rw [if_pos e] at this; exact .inl ⟨e, this⟩
  · rw [if_neg e] at this; exact .inr ⟨e, this⟩
theorem count_split (l : List Name) (t : Nat) (n : Name) : l.count n = (l.take t).count n + (l.drop t).count n := by
  rw [← List.count_append, List.take_append_drop]
/-- a stitch that draws -/
theorem mid_draw {rows : Rows} {base : Name → Nat} {back : Bool} {many : Nat} {m : Mid} (ok : MidOk rows base back many m) (t : Nat) (ls : List (List Name))
    (hm : m.fresh.length + ls.length ≤ many) (hl : ∀ n, (∃ l, l ∈ ls ∧ n ∈ l) ↔ n ∈ m.left.take t) :
    MidOk rows base back many { m with left := m.left.drop t, right := m.right ++ (List.range ls.length).map (fun i => nmd rows.length back many (m.fresh.length + i)), fresh := m.fresh ++ ls } := by
  have hdr : ∀ n, drM rows { m with left := m.left.drop t, right := m.right ++ (List.range ls.length).map (fun i => nmd rows.length back many (m.fresh.length + i)), fresh := m.fresh ++ ls } n ↔ drM rows m n ∨ n ∈ m.left.take t := fun n => by
    unfold drM
    rw [← hl n]
    constructor
    · rintro (h | ⟨l, h1, h2⟩)
      · exact .inl (.inl h)
      · rcases List.mem_append.mp h1 with h1 | h1
        · exact .inl (.inr ⟨l, h1, h2⟩)
        · exact .inr ⟨l, h1, h2⟩
    · rintro ((h | ⟨l, h1, h2⟩) | ⟨l, h1, h2⟩)
      · exact .inl h
      · exact .inr ⟨l, List.mem_append_left _ h1, h2⟩
      · exact .inr ⟨l, List.mem_append_right _ h1, h2⟩
  have hc : ∀ n, cM base { m with left := m.left.drop t, right := m.right ++ (List.range ls.length).map (fun i => nmd rows.length back many (m.fresh.length + i)), fresh := m.fresh ++ ls } n + (m.left.take t).count n =
      cM base m n + ((List.range ls.length).map fun i => nmd rows.length back many (m.fresh.length + i)).count n := fun n => by
    unfold cM
    have h1 := count_split m.left t n
    simp only [List.count_append]
    omega
  have hnot : ∀ n, n ∈ names rows → n ∉ (List.range ls.length).map (fun i => nmd rows.length back many (m.fresh.length + i)) := fun n hn h => by
    obtain ⟨i, _, rfl⟩ := List.mem_map.mp h
    exact nmd_not hn
  have hle : ∀ n, (m.left.take t).count n ≤ cM base m n := fun n => by
    have h1 := count_split m.left t n
    unfold cM
    omega
  refine ⟨fun n hn => ?_, fun i hi => ?_, fun n hn hne => ?_, fun n hn => ok.lft n (List.mem_of_mem_drop hn), fun l hl' n hn => ?_⟩
  · have h1 := hc n
    have h2 : ((List.range ls.length).map fun i => nmd rows.length back many (m.fresh.length + i)).count n = 0 := List.count_eq_zero.mpr (hnot n hn)
    have h3 := hle n
    have h4 := List.count_pos_iff (a := n) (l := m.left.take t)
    rw [hdr n]
    by_cases e : n ∈ m.left.take t
    · have h5 := h4.mpr e
      rcases ok.old n hn with ⟨_, q⟩ | ⟨_, q⟩
      · omega
      · exact .inl ⟨.inr e, by omega⟩
    · have h5 : (m.left.take t).count n = 0 := List.count_eq_zero.mpr e
      rcases ok.old n hn with ⟨p, q⟩ | ⟨p, q⟩
      · exact .inl ⟨.inl p, by omega⟩
      · exact .inr ⟨fun h => h.elim p e, by omega⟩
  · simp only [List.length_append] at hi
    have h1 := hc (nmd rows.length back many i)
    have h2 : (m.left.take t).count (nmd rows.length back many i) = 0 := List.count_eq_zero.mpr fun h => nmd_not (ok.lft _ (List.mem_of_mem_take h))
    by_cases hi' : i < m.fresh.length
    · have h3 := ok.new i hi'
      have h4 : ((List.range ls.length).map fun i => nmd rows.length back many (m.fresh.length + i)).count (nmd rows.length back many i) = 0 := List.count_eq_zero.mpr fun h => by
        obtain ⟨j, hj, e⟩ := List.mem_map.mp h
        have hj := List.mem_range.mp hj
        have := nmd_inj (by omega) (by omega) e
        omega
      omega
    · have h3 : cM base m (nmd rows.length back many i) = 0 := ok.els _ nmd_not fun j hj e => by
        have := nmd_inj (by omega) (by omega) e
        omega
      have h4 : ((List.range ls.length).map fun i => nmd rows.length back many (m.fresh.length + i)).count (nmd rows.length back many i) = 1 := by
        rcases count_nmds (R := rows.length) (back := back) hm (nmd rows.length back many i) with h | h
        · exact h.2
        · exact absurd (List.mem_map.mpr ⟨i - m.fresh.length, List.mem_range.mpr (by omega), by congr 1; omega⟩) h.1
      omega
  · have h1 := hc n
    have h2 : (m.left.take t).count n = 0 := List.count_eq_zero.mpr fun h => hn (ok.lft _ (List.mem_of_mem_take h))
    have h3 : cM base m n = 0 := ok.els n hn fun i hi => hne i (by simp only [List.length_append]; omega)
    have h4 : ((List.range ls.length).map fun i => nmd rows.length back many (m.fresh.length + i)).count n = 0 := List.count_eq_zero.mpr fun h => by
      obtain ⟨j, hj, e⟩ := List.mem_map.mp h
      have hj := List.mem_range.mp hj
      exact hne (m.fresh.length + j) (by simp only [List.length_append]; omega) e.symm
    omega
  · rcases List.mem_append.mp hl' with h | h
    · exact ok.frs l h n hn
    · exact ok.lft n (List.mem_of_mem_take ((hl n).mp ⟨l, h, hn⟩))
/-- a stitch that moves names about -/
theorem mid_move {rows : Rows} {base : Name → Nat} {back : Bool} {many : Nat} {m m' : Mid} (ok : MidOk rows base back many m) (hf : m'.fresh = m.fresh)
    (hc : ∀ n, cM base m' n = cM base m n) (hl : ∀ n, n ∈ m'.left → n ∈ m.left) : MidOk rows base back many m' := by
  have hdr : ∀ n, drM rows m' n ↔ drM rows m n := fun n => by unfold drM; rw [hf]
  refine ⟨fun n hn => ?_, fun i hi => ?_, fun n hn hne => ?_, fun n hn => ok.lft n (hl n hn), fun l hl' => ok.frs l (by rw [← hf]; exact hl')⟩
  · rw [hdr n, hc n]; exact ok.old n hn
  · rw [hc]; exact ok.new i (by rw [← hf]; exact hi)
  · rw [hc]; exact ok.els n hn fun i hi => hne i (by rw [hf]; exact hi)
end K34
set_option autoImplicit true
set_option autoImplicit false
namespace K34

theorem draws_cover {s : Stch} {pss : List (List Nat)} (h : s.draws = some pss) (p : Nat) : (∃ ps, ps ∈ pss ∧ p ∈ ps) ↔ p < s.takes := by
  cases s with
  | plain f =>
    obtain rfl : [[0]] = pss := Option.some.inj h
    simp [Stch.takes]
  | over =>
    obtain rfl : [[]] = pss := Option.some.inj h
    simp [Stch.takes]
  | lean m r f =>
    obtain rfl : [if r then (List.range (m.val + 2)).reverse else List.range (m.val + 2)] = pss := Option.some.inj h
    cases r <;> simp [Stch.takes]
  | grow m f =>
    obtain rfl : List.replicate (m.val + 2) [0] = pss := Option.some.inj h
    constructor
    · rintro ⟨ps, h1, h2⟩
      rw [List.eq_of_mem_replicate h1] at h2
      obtain rfl : p = 0 := by simpa using h2
      exact Nat.zero_lt_one
    · intro h
      obtain rfl : p = 0 := by
        have h : p < 1 := h
        omega
      exact ⟨[0], List.mem_replicate.mpr ⟨by omega, rfl⟩, by simp⟩
  | cross a b v f =>
    obtain rfl : ((List.range (b.val + 1)).map fun k => [a.val + 1 + k]) ++ ((List.range (a.val + 1)).map fun k => [k]) = pss := Option.some.inj h
    show _ ↔ p < (a.val + 1) + (b.val + 1)
    constructor
    · rintro ⟨ps, h1, h2⟩
      rcases List.mem_append.mp h1 with h1 | h1
      · obtain ⟨k, hk, rfl⟩ := List.mem_map.mp h1
        have hk := List.mem_range.mp hk
        have : p = a.val + 1 + k := by simpa using h2
        omega
      · obtain ⟨k, hk, rfl⟩ := List.mem_map.mp h1
        have hk := List.mem_range.mp hk
        have : p = k := by simpa using h2
        omega
    · intro h
      by_cases e : p < a.val + 1
      · exact ⟨[p], List.mem_append_right _ (List.mem_map.mpr ⟨p, List.mem_range.mpr e, rfl⟩), by simp⟩
      · exact ⟨[p], List.mem_append_left _ (List.mem_map.mpr ⟨p - (a.val + 1), List.mem_range.mpr (by omega), by congr 1; omega⟩), by simp⟩
  | slip => cases h
  | off => cases h
  | keep k => cases h
  | fetch k => cases h
theorem mem_getD {l : List Name} {n : Name} : n ∈ l ↔ ∃ p, p < l.length ∧ l.getD p (0, 0) = n := by
  rw [List.mem_iff_getElem]
  constructor
  · rintro ⟨p, hp, e⟩
    exact ⟨p, hp, by rw [List.getD_eq_getElem?_getD, List.getElem?_eq_getElem hp]; exact e⟩
  · rintro ⟨p, hp, e⟩
    exact ⟨p, hp, by rw [List.getD_eq_getElem?_getD, List.getElem?_eq_getElem hp] at e; exact e⟩
theorem draws_mem {s : Stch} {pss : List (List Nat)} {back : Bool} (h : s.draws = some pss) {taken : List Name} (ht : taken.length = s.takes) (n : Name) :
    (∃ l, l ∈ (pss.map fun ps => fac back (ps.map fun p => taken.getD p (0, 0))) ∧ n ∈ l) ↔ n ∈ taken := by
  rw [mem_getD]
  constructor
  · rintro ⟨l, h1, h2⟩
    obtain ⟨ps, hps, rfl⟩ := List.mem_map.mp h1
    obtain ⟨p, hp, e⟩ := List.mem_map.mp (mem_fac.mp h2)
    exact ⟨p, by rw [ht]; exact (draws_cover h p).mp ⟨ps, hps, hp⟩, e⟩
  · rintro ⟨p, hp, e⟩
    obtain ⟨ps, h1, h2⟩ := (draws_cover h p).mpr (by rw [← ht]; exact hp)
    exact ⟨_, List.mem_map.mpr ⟨ps, h1, rfl⟩, mem_fac.mpr (List.mem_map.mpr ⟨p, h2, e⟩)⟩

/-- what a row still asks of the needles -/
structure Pre (rows : Rows) (base : Name → Nat) (back : Bool) (many : Nat) (m : Mid) (rest : List Stch) : Prop where
  ok : MidOk rows base back many m
  tk : sumS Stch.takes rest ≤ m.left.length
  fe : ∀ k, sumS (Stch.isF k) rest = (m.stock k).length
  nw : m.fresh.length + sumS Stch.news rest = many
theorem sumW_eq {f g : W → Nat} (h : ∀ k, f k = g k) : sumW f = sumW g := by unfold sumW; rw [h, h, h, h]
theorem take1 {l : List Name} (h : 1 ≤ l.length) : ∃ a r, l = a :: r ∧ l.take 1 = [a] ∧ l.drop 1 = r := by
  cases l with
  | nil => simp at h
  | cons a r => exact ⟨a, r, rfl, rfl, rfl⟩
section
variable {rows : Rows} {base : Name → Nat} {back : Bool} {many : Nat} {m : Mid} {rest : List Stch} {R : Nat}
theorem stStep_slip : stStep R back many m .slip = { m with left := m.left.drop 1, right := m.right ++ [(m.left.take 1).getD 0 (0, 0)] } := rfl
theorem stStep_off : stStep R back many m .off = { m with left := m.left.drop 1, off := m.off ++ [(m.left.take 1).getD 0 (0, 0)] } := rfl
theorem stStep_keep {k : W} : stStep R back many m (.keep k) = { m with left := m.left.drop 1, put := fun j => if j = k then m.put k ++ [(m.left.take 1).getD 0 (0, 0)] else m.put j } := rfl
theorem stStep_fetch {k : W} : stStep R back many m (.fetch k) = { m with left := m.left.drop 0, right := m.right ++ [(m.stock k).headD (0, 0)], stock := fun j => if j = k then (m.stock k).tail else m.stock j } := rfl
theorem Pre.step {s : Stch} (P : Pre rows base back many m (s :: rest)) : Pre rows base back many (stStep rows.length back many m s) rest := by
  have htk := P.tk
  have hnw := P.nw
  rw [sumS_cons] at htk hnw
  cases hd : s.draws with
  | some pss =>
    have e1 := stStep_draw (R := rows.length) (back := back) (many := many) (m := m) hd
    have hn : s.news = pss.length := by unfold Stch.news; rw [hd]; rfl
    have hs : ∀ k, s.isF k = 0 := fun k => by cases s <;> first | rfl | cases hd
    rw [e1]
    have ht : (m.left.take s.takes).length = s.takes := by rw [List.length_take]; omega
    have := mid_draw P.ok s.takes (pss.map fun ps => fac back (ps.map fun p => (m.left.take s.takes).getD p (0, 0))) (by rw [List.length_map]; omega) (draws_mem hd ht)
    rw [List.length_map] at this
    refine ⟨this, ?_, fun k => ?_, ?_⟩
    · show _ ≤ (m.left.drop s.takes).length
      rw [List.length_drop]; omega
    · have := P.fe k
      rw [sumS_cons, hs k, Nat.zero_add] at this
      exact this
    · show (m.fresh ++ _).length + _ = many
      rw [List.length_append, List.length_map]; omega
  | none =>
    have hn : s.news = 0 := by unfold Stch.news; rw [hd]; rfl
    cases s with
    | slip =>
      obtain ⟨a, r, e1, e2, e3⟩ := take1 (l := m.left) (by have : Stch.takes .slip = 1 := rfl; omega)
      rw [stStep_slip, e2, e3]
      refine ⟨mid_move P.ok rfl (fun n => ?_) fun n h => ?_, ?_, fun k => ?_, ?_⟩
      · unfold cM
        rw [e1]
        simp only [List.count_append, List.count_cons, List.count_nil, List.getD_cons_zero]
        omega
      · rw [e1]; exact List.mem_cons_of_mem _ h
      · have : Stch.takes .slip = 1 := rfl
        rw [e1, List.length_cons] at htk
        show _ ≤ r.length
        omega
      · have := P.fe k
        rw [sumS_cons] at this
        exact (Nat.zero_add _).symm.trans this
      · show m.fresh.length + _ = many; omega
    | off =>
      obtain ⟨a, r, e1, e2, e3⟩ := take1 (l := m.left) (by have : Stch.takes .off = 1 := rfl; omega)
      rw [stStep_off, e2, e3]
      refine ⟨mid_move P.ok rfl (fun n => ?_) fun n h => ?_, ?_, fun k => ?_, ?_⟩
      · unfold cM
        rw [e1]
        simp only [List.count_append, List.count_cons, List.count_nil, List.getD_cons_zero]
        omega
      · rw [e1]; exact List.mem_cons_of_mem _ h
      · have : Stch.takes .off = 1 := rfl
        rw [e1, List.length_cons] at htk
        show _ ≤ r.length
        omega
      · have := P.fe k
        rw [sumS_cons] at this
        exact (Nat.zero_add _).symm.trans this
      · show m.fresh.length + _ = many; omega
    | keep j =>
      obtain ⟨a, r, e1, e2, e3⟩ := take1 (l := m.left) (by have : Stch.takes (.keep j) = 1 := rfl; omega)
      rw [stStep_keep, e2, e3]
      refine ⟨mid_move P.ok rfl (fun n => ?_) fun n h => ?_, ?_, fun k => ?_, ?_⟩
      · unfold cM sumW
        rw [e1]
        cases j <;> simp [List.count_append, List.count_cons] <;> omega
      · rw [e1]; exact List.mem_cons_of_mem _ h
      · have : Stch.takes (.keep j) = 1 := rfl
        rw [e1, List.length_cons] at htk
        show _ ≤ r.length
        omega
      · have := P.fe k
        rw [sumS_cons] at this
        exact (Nat.zero_add _).symm.trans this
      · show m.fresh.length + _ = many; omega
    | fetch j =>
      have hst : ∃ a r, m.stock j = a :: r := by
        have := P.fe j
        rw [sumS_cons, show Stch.isF j (.fetch j) = 1 from if_pos rfl] at this
        cases e : m.stock j with
        | nil => rw [e, List.length_nil] at this; omega
        | cons a r => exact ⟨a, r, rfl⟩
      obtain ⟨a, r, e⟩ := hst
      rw [stStep_fetch]
      refine ⟨mid_move P.ok rfl (fun n => ?_) fun n h => h, ?_, fun k => ?_, ?_⟩
      · unfold cM sumW
        rw [e]
        cases j <;> simp [List.count_append, List.count_cons, e] <;> omega
      · have : Stch.takes (.fetch j) = 0 := rfl
        show _ ≤ m.left.length
        omega
      · have := P.fe k
        rw [sumS_cons] at this
        show _ = (if k = j then (m.stock j).tail else m.stock k).length
        by_cases q : k = j
        · subst q
          rw [if_pos rfl, e]
          rw [show Stch.isF k (.fetch k) = 1 from if_pos rfl, e, List.length_cons] at this
          show _ = r.length
          omega
        · rw [if_neg q]
          rw [show Stch.isF k (.fetch j) = 0 from if_neg fun z => q z.symm] at this
          omega
      · show m.fresh.length + _ = many; omega
    | plain f => cases hd
    | over => cases hd
    | lean a b c => cases hd
    | grow a b => cases hd
    | cross a b c d => cases hd
theorem Pre.to {row : List Stch} (P : Pre rows base back many m row) : ∀ i, i ≤ row.length → Pre rows base back many (rowTo rows.length back many m row i) (row.drop i) := by
  intro i
  induction i with
  | zero => intro _; exact P
  | succ i ih =>
    intro hi
    have h := ih (by omega)
    have hlt : i < row.length := by omega
    rw [rowTo_succ (List.getElem?_eq_getElem hlt)]
    rw [List.drop_eq_getElem_cons hlt] at h
    exact h.step
end
end K34
set_option autoImplicit true
set_option autoImplicit false
namespace K34

/-! ### needles between rows -/
def cN (nd : Nd) (n : Name) : Nat := nd.left.count n + nd.right.count n + sumW (fun k => (nd.held k).count n) + nd.gone.count n
structure NdOk (nd : Nd) : Prop where
  wf : Wf nd.made
  old : ∀ n, n ∈ names nd.made → (drawn nd.made n ∧ cN nd n = 0) ∨ (¬ drawn nd.made n ∧ cN nd n = 1)
  els : ∀ n, n ∉ names nd.made → cN nd n = 0
structure Fits (nd : Nd) (row : List Stch) (turn : Bool) : Prop where
  tk : sumS Stch.takes row ≤ nd.left.length
  tn : sumS Stch.takes row < nd.left.length → turn = true
  fe : ∀ k, namedIn row k = true → sumS (Stch.isF k) row = (nd.held k).length
theorem not_named {row : List Stch} {k : W} (h : ¬ namedIn row k = true) : sumS (Stch.isF k) row = 0 ∧ sumS (Stch.isH k) row = 0 := by
  induction row with
  | nil => exact ⟨rfl, rfl⟩
  | cons s row ih =>
    unfold namedIn at h ih
    rw [List.any_cons, Bool.or_eq_true, Bool.or_eq_true, decide_eq_true_eq, decide_eq_true_eq] at h
    have h1 : ¬ (0 < s.isF k) := fun e => h (.inl (.inl e))
    have h2 : ¬ (0 < s.isH k) := fun e => h (.inl (.inr e))
    obtain ⟨i1, i2⟩ := ih fun e => h (.inr e)
    rw [sumS_cons, sumS_cons, i1, i2]
    omega
def baseOf (nd : Nd) (row : List Stch) (n : Name) : Nat := sumW (fun k => if namedIn row k then 0 else (nd.held k).count n) + nd.gone.count n
theorem NdOk.pre {nd : Nd} {row : List Stch} {turn : Bool} (h : NdOk nd) (f : Fits nd row turn) : Pre nd.made (baseOf nd row) nd.back (manyIn row) (startMid nd row) row := by
  have hc : ∀ n, cM (baseOf nd row) (startMid nd row) n = cN nd n := fun n => by
    unfold cM baseOf startMid cN sumW
    simp only [List.count_nil]
    have e : ∀ k, (if namedIn row k = true then fac nd.back (nd.held k) else []).count n + (if namedIn row k = true then 0 else (nd.held k).count n) = (nd.held k).count n := fun k => by
      by_cases q : namedIn row k = true
      · rw [if_pos q, if_pos q, count_fac]; omega
      · rw [if_neg q, if_neg q, List.count_nil]; omega
    have e1 := e .w
    have e2 := e .x
    have e3 := e .y
    have e4 := e .z
    omega
  have hd : ∀ n, drM nd.made (startMid nd row) n ↔ drawn nd.made n := fun n => ⟨fun q => q.elim id (fun ⟨l, hl, _⟩ => absurd hl (List.not_mem_nil)), .inl⟩
  refine ⟨⟨fun n hn => ?_, fun i hi => absurd hi (Nat.not_lt_zero i), fun n hn _ => ?_, fun n hn => ?_, fun l hl => absurd hl List.not_mem_nil⟩, f.tk, fun k => ?_, ?_⟩
  · rw [hd, hc]; exact h.old n hn
  · rw [hc]; exact h.els n hn
  · refine Classical.byContradiction fun q => ?_
    have h1 := h.els n q
    have h2 : 0 < nd.left.count n := List.count_pos_iff.mpr hn
    unfold cN at h1
    omega
  · show _ = (if namedIn row k = true then fac nd.back (nd.held k) else []).length
    by_cases q : namedIn row k = true
    · rw [if_pos q, length_fac]; exact f.fe k q
    · rw [if_neg q]; exact (not_named q).1
  · show 0 + _ = _
    rw [Nat.zero_add]; rfl
/-! ### lengths behind a row -/
def Stch.gives (s : Stch) : Nat := s.ties.length
structure Len (m m' : Mid) (t g : Nat) (h : W → Nat) (b : Nat) : Prop where
  left : m'.left.length = m.left.length - t
  right : m'.right.length = m.right.length + g
  put : ∀ k, (m'.put k).length = (m.put k).length + h k
  off : m'.off.length = m.off.length + b
theorem stStep_len {R : Nat} {back : Bool} {many : Nat} {m : Mid} (s : Stch) : Len m (stStep R back many m s) s.takes s.gives (fun k => s.isH k) s.isB := by
  cases hd : s.draws with
  | some pss =>
    rw [stStep_draw hd]
    have e1 : s.ties = pss.map Tie.new := by cases s <;> simp_all [Stch.draws, Stch.ties]
    refine ⟨by simp, by simp [Stch.gives, e1], fun k => ?_, ?_⟩
    · have : s.isH k = 0 := by cases s <;> first | rfl | cases hd
      rw [this]; rfl
    · have : s.isB = 0 := by cases s <;> first | rfl | cases hd
      rw [this]; rfl
  | none =>
    cases s with
    | slip => rw [stStep_slip]; exact ⟨by simp [Stch.takes], by simp [Stch.gives, Stch.ties], fun k => rfl, rfl⟩
    | off => rw [stStep_off]; exact ⟨by simp [Stch.takes], by simp [Stch.gives, Stch.ties], fun k => rfl, by simp [Stch.isB]⟩
    | keep j =>
      rw [stStep_keep]
      refine ⟨by simp [Stch.takes], by simp [Stch.gives, Stch.ties], fun k => ?_, rfl⟩
      show (if k = j then _ else _ : List Name).length = _ + (if j = k then 1 else 0)
      by_cases q : k = j
      · subst q; simp
      · rw [if_neg q, if_neg fun z => q z.symm]; rfl
    | fetch j => rw [stStep_fetch]; exact ⟨by simp [Stch.takes], by simp [Stch.gives, Stch.ties], fun k => rfl, rfl⟩
    | plain f => cases hd
    | over => cases hd
    | lean a b c => cases hd
    | grow a b => cases hd
    | cross a b c d => cases hd
theorem fold_len {R : Nat} {back : Bool} {many : Nat} : ∀ (row : List Stch) (m : Mid), Len m (row.foldl (stStep R back many) m) (sumS Stch.takes row) (sumS Stch.gives row) (fun k => sumS (Stch.isH k) row) (sumS Stch.isB row)
  | [], m => ⟨rfl, rfl, fun _ => rfl, rfl⟩
  | s :: row, m => by
    have h1 := stStep_len (R := R) (back := back) (many := many) (m := m) s
    have h2 := fold_len (R := R) (back := back) (many := many) row (stStep R back many m s)
    rw [List.foldl_cons]
    simp only [sumS_cons]
    refine ⟨?_, ?_, fun k => ?_, ?_⟩
    · rw [h2.left, h1.left]; omega
    · rw [h2.right, h1.right]; omega
    · rw [h2.put, h1.put]; omega
    · rw [h2.off, h1.off]; omega
theorem endMid_len (nd : Nd) (row : List Stch) : Len (startMid nd row) (endMid nd row) (sumS Stch.takes row) (sumS Stch.gives row) (fun k => sumS (Stch.isH k) row) (sumS Stch.isB row) := by
  unfold endMid rowTo
  rw [List.take_length]
  exact fold_len row _
theorem work_left (nd : Nd) (row : List Stch) : (work nd row).left.length = nd.right.length + sumS Stch.gives row := by
  show (endMid nd row).right.reverse.length = _
  rw [List.length_reverse, (endMid_len nd row).right]; rfl
theorem work_right (nd : Nd) (row : List Stch) : (work nd row).right.length = nd.left.length - sumS Stch.takes row := by
  show (endMid nd row).left.reverse.length = _
  rw [List.length_reverse, (endMid_len nd row).left]; rfl
theorem work_held (nd : Nd) (row : List Stch) (k : W) : ((work nd row).held k).length = if namedIn row k = true then sumS (Stch.isH k) row else (nd.held k).length := by
  show (if namedIn row k = true then fac nd.back ((endMid nd row).put k) else nd.held k : List Name).length = _
  by_cases q : namedIn row k = true
  · rw [if_pos q, if_pos q, length_fac, (endMid_len nd row).put]
    show 0 + _ = _
    rw [Nat.zero_add]
  · rw [if_neg q, if_neg q]
theorem work_gone (nd : Nd) (row : List Stch) : (work nd row).gone.length = nd.gone.length + sumS Stch.isB row := by
  show (nd.gone ++ (endMid nd row).off).length = _
  rw [List.length_append, (endMid_len nd row).off]
  show _ + (0 + _) = _
  rw [Nat.zero_add]
theorem work_made (nd : Nd) (row : List Stch) : (work nd row).made.length = nd.made.length + 1 := by
  show (nd.made ++ [_]).length = _
  rw [List.length_append]; rfl
/-! ### a further row of loops -/
theorem getD_snoc {α : Type} (l : List α) (x d : α) (i : Nat) : (l ++ [x]).getD i d = if i < l.length then l.getD i d else if i = l.length then x else d := by
  rw [List.getD_eq_getElem?_getD, List.getElem?_append, List.getD_eq_getElem?_getD]
  by_cases h : i < l.length
  · rw [if_pos h, if_pos h]
  · rw [if_neg h, if_neg h]
    by_cases q : i = l.length
    · subst q; simp
    · rw [if_neg q, List.getElem?_eq_none (by simp; omega)]; rfl
theorem wid_snoc (rows : Rows) (r : List (List Name)) (i : Nat) : wid (rows ++ [r]) i = if i < rows.length then wid rows i else if i = rows.length then r.length else 0 := by
  unfold wid
  rw [getD_snoc]
  by_cases h : i < rows.length
  · rw [if_pos h, if_pos h]
  · rw [if_neg h, if_neg h]
    by_cases q : i = rows.length
    · rw [if_pos q, if_pos q]
    · rw [if_neg q, if_neg q]; rfl
theorem mem_names_snoc {rows : Rows} {r : List (List Name)} {n : Name} : n ∈ names (rows ++ [r]) ↔ n ∈ names rows ∨ (n.1 = rows.length ∧ n.2 < r.length) := by
  rw [mem_names, mem_names, wid_snoc]
  by_cases h : n.1 < rows.length
  · rw [if_pos h]
    exact ⟨.inl, fun q => q.elim id fun z => absurd z.1 (by omega)⟩
  · rw [if_neg h, wid_out (rows := rows) (r := n.1) (by omega)]
    by_cases q : n.1 = rows.length
    · rw [if_pos q]
      exact ⟨fun z => .inr ⟨q, z⟩, fun z => z.elim (fun y => absurd y (Nat.not_lt_zero _)) fun y => y.2⟩
    · rw [if_neg q]
      exact ⟨fun z => absurd z (Nat.not_lt_zero _), fun z => z.elim (fun y => absurd y (Nat.not_lt_zero _)) fun y => absurd y.1 q⟩
theorem names_lt {rows : Rows} {n : Name} (h : n ∈ names rows) : n.1 < rows.length := (mem_namesN.mp h).1
theorem par_old {rows : Rows} {r : List (List Name)} {n : Name} (h : n.1 < rows.length) : par (rows ++ [r]) n = par rows n := by
  unfold par
  rw [getD_snoc, if_pos h]
theorem par_new {rows : Rows} {r : List (List Name)} {n : Name} (h : n.1 = rows.length) : par (rows ++ [r]) n = r.getD n.2 [] := by
  unfold par
  rw [getD_snoc, if_neg (by omega), if_pos h]
theorem drawn_snoc {rows : Rows} {r : List (List Name)} {n : Name} : drawn (rows ++ [r]) n ↔ drawn rows n ∨ ∃ l, l ∈ r ∧ n ∈ l := by
  unfold drawn
  constructor
  · rintro ⟨m, hm, hp⟩
    rcases mem_names_snoc.mp hm with h | ⟨h1, h2⟩
    · rw [par_old (names_lt h)] at hp
      exact .inl ⟨m, h, hp⟩
    · rw [par_new h1, List.getD_eq_getElem?_getD, List.getElem?_eq_getElem h2] at hp
      exact .inr ⟨_, List.getElem_mem h2, hp⟩
  · rintro (⟨m, hm, hp⟩ | ⟨l, hl, hp⟩)
    · exact ⟨m, mem_names_snoc.mpr (.inl hm), by rw [par_old (names_lt hm)]; exact hp⟩
    · obtain ⟨i, hi, e⟩ := List.mem_iff_getElem.mp hl
      refine ⟨(rows.length, i), mem_names_snoc.mpr (.inr ⟨rfl, hi⟩), ?_⟩
      rw [par_new rfl, List.getD_eq_getElem?_getD, List.getElem?_eq_getElem hi]
      show n ∈ r[i]
      rw [e]; exact hp
theorem names_snoc (rows : Rows) (r : List (List Name)) : names (rows ++ [r]) = names rows ++ nmRow rows.length r.length := by
  have h : ∀ k, k ≤ rows.length → namesN (rows ++ [r]) k = namesN rows k := fun k => by
    induction k with
    | zero => intro _; rfl
    | succ k ih =>
      intro hk
      show namesN (rows ++ [r]) k ++ nmRow k (wid (rows ++ [r]) k) = namesN rows k ++ nmRow k (wid rows k)
      rw [ih (by omega), wid_snoc, if_pos (by omega)]
  unfold names
  rw [List.length_append]
  show namesN (rows ++ [r]) rows.length ++ nmRow rows.length (wid (rows ++ [r]) rows.length) = _
  rw [h _ (Nat.le_refl _), wid_snoc, if_neg (by omega), if_pos rfl]
theorem eNames_snoc (rows : Rows) (r : List (List Name)) : (eNames (rows ++ [r]) (names (rows ++ [r]))).length = (eNames rows (names rows)).length + (r.map List.length).sum := by
  rw [names_snoc, eNames_append, List.length_append]
  congr 1
  · unfold eNames
    rw [List.length_flatMap, List.length_flatMap]
    congr 1
    refine List.map_congr_left fun m hm => ?_
    rw [par_old (names_lt hm)]
  · unfold eNames nmRow
    rw [List.length_flatMap, List.map_map]
    congr 1
    refine List.ext_getElem (by simp) fun i h1 h2 => ?_
    have hi : i < r.length := by simpa using h2
    simp only [List.getElem_map, List.getElem_range, Function.comp_def, List.length_map]
    rw [par_new rfl, List.getD_eq_getElem?_getD, List.getElem?_eq_getElem hi]
    rfl
/-! ### the needles behind a row -/
theorem nmd_mem {R many i : Nat} {back : Bool} (h : i < many) : (nmd R back many i).1 = R ∧ (nmd R back many i).2 < many := by
  unfold nmd
  cases back
  · exact ⟨rfl, h⟩
  · exact ⟨rfl, by show many - 1 - i < many; omega⟩
theorem nmd_onto {R many : Nat} {back : Bool} {n : Name} (h1 : n.1 = R) (h2 : n.2 < many) : ∃ i, i < many ∧ n = nmd R back many i := by
  cases back
  · exact ⟨n.2, h2, Prod.ext h1 rfl⟩
  · exact ⟨many - 1 - n.2, by omega, Prod.ext h1 (by show n.2 = many - 1 - (many - 1 - n.2); omega)⟩
theorem NdOk.work {nd : Nd} {row : List Stch} {turn : Bool} (h : NdOk nd) (f : Fits nd row turn) : NdOk (work nd row) ∧ (endMid nd row).fresh.length = manyIn row := by
  have p := (h.pre f).to row.length (Nat.le_refl _)
  rw [List.drop_length] at p
  have hl := endMid_len nd row
  have p : Pre nd.made (baseOf nd row) nd.back (manyIn row) (endMid nd row) [] := p
  have hfr : (endMid nd row).fresh.length = manyIn row := p.nw
  refine ⟨?_, hfr⟩
  have ok := p.ok
  have hst : ∀ k, (endMid nd row).stock k = [] := fun k => List.eq_nil_of_length_eq_zero (p.fe k).symm
  have hpt : ∀ k, ¬ namedIn row k = true → (endMid nd row).put k = [] := fun k q => List.eq_nil_of_length_eq_zero (by
    rw [hl.put, (not_named q).2]; rfl)
  have hc : ∀ n, cN (K34.work nd row) n = cM (baseOf nd row) (endMid nd row) n := fun n => by
    show (endMid nd row).right.reverse.count n + (endMid nd row).left.reverse.count n + sumW (fun k => (if namedIn row k = true then fac nd.back ((endMid nd row).put k) else nd.held k).count n) + (nd.gone ++ (endMid nd row).off).count n = _
    have e : ∀ k, (if namedIn row k = true then fac nd.back ((endMid nd row).put k) else nd.held k).count n = ((endMid nd row).put k).count n + (if namedIn row k = true then 0 else (nd.held k).count n) := fun k => by
      by_cases q : namedIn row k = true
      · rw [if_pos q, if_pos q, count_fac]; omega
      · rw [if_neg q, if_neg q, hpt k q, List.count_nil]; omega
    unfold cM baseOf sumW
    simp only [e, hst, List.count_nil, List.count_append, List.count_reverse]
    omega
  have hlen : (fac nd.back (endMid nd row).fresh).length = manyIn row := by rw [length_fac, hfr]
  have hdr : ∀ n, drawn (K34.work nd row).made n ↔ drM nd.made (endMid nd row) n := fun n => by
    show drawn (nd.made ++ [fac nd.back (endMid nd row).fresh]) n ↔ _
    rw [drawn_snoc]
    unfold drM
    refine or_congr Iff.rfl ⟨fun ⟨l, a, b⟩ => ⟨l, mem_fac.mp a, b⟩, fun ⟨l, a, b⟩ => ⟨l, mem_fac.mpr a, b⟩⟩
  have hnm : ∀ n, n ∈ names (K34.work nd row).made ↔ n ∈ names nd.made ∨ (n.1 = nd.made.length ∧ n.2 < manyIn row) := fun n => by
    show n ∈ names (nd.made ++ [fac nd.back (endMid nd row).fresh]) ↔ _
    rw [mem_names_snoc, hlen]
  have hwf : Wf (K34.work nd row).made := fun m hm q hq => by
    have hq : q ∈ par (nd.made ++ [fac nd.back (endMid nd row).fresh]) m := hq
    rcases (hnm m).mp hm with g | ⟨g1, g2⟩
    · rw [par_old (names_lt g)] at hq
      obtain ⟨a, b⟩ := h.wf m g q hq
      exact ⟨a, (hnm q).mpr (.inl b)⟩
    · rw [par_new g1, List.getD_eq_getElem?_getD, List.getElem?_eq_getElem (by rw [hlen]; exact g2)] at hq
      have hq2 := ok.frs _ (mem_fac.mp (List.getElem_mem (by rw [hlen]; exact g2))) q hq
      exact ⟨by rw [g1]; exact names_lt hq2, (hnm q).mpr (.inl hq2)⟩
  refine ⟨hwf, fun n hn => ?_, fun n hn => ?_⟩
  · rw [hdr, hc]
    rcases (hnm n).mp hn with g | ⟨g1, g2⟩
    · exact ok.old n g
    · obtain ⟨i, hi, e⟩ := nmd_onto (back := nd.back) g1 g2
      refine .inr ⟨fun q => ?_, ?_⟩
      · obtain ⟨m, hm, hp⟩ := (hdr n).mpr q
        rcases (hnm m).mp hm with z | ⟨z1, z2⟩
        · have := (hwf m hm n hp).1
          have := names_lt z
          omega
        · have := (hwf m hm n hp).1
          omega
      · rw [e]
        exact ok.new i (by rw [hfr]; exact hi)
  · rw [hc]
    refine ok.els n (fun q => hn ((hnm n).mpr (.inl q))) fun i hi e => hn ((hnm n).mpr (.inr ?_))
    rw [e]
    exact nmd_mem (by rw [← hfr]; exact hi)
theorem names_one (r : List (List Name)) : names [r] = nmRow 0 r.length := by
  have := names_snoc [] r
  exact this
theorem NdOk.new (n : Nat) : NdOk (newNd n) := by
  have hn : names (newNd n).made = nmRow 0 n := by
    show names [List.replicate n []] = _
    rw [names_one, List.length_replicate]
  have hp : ∀ m, par (newNd n).made m = [] := fun m => by
    show ([List.replicate n []].getD m.1 []).getD m.2 [] = []
    cases e : m.1 with
    | zero =>
      show (List.replicate n ([] : List Name)).getD m.2 [] = []
      rw [List.getD_eq_getElem?_getD, List.getElem?_replicate]
      by_cases q : m.2 < n
      · rw [if_pos q]; rfl
      · rw [if_neg q]; rfl
    | succ i => rfl
  have hd : ∀ m, ¬ drawn (newNd n).made m := fun m ⟨x, _, h⟩ => by rw [hp] at h; cases h
  have hc : ∀ m, cN (newNd n) m = (nmRow 0 n).count m := fun m => by
    show (nmRow 0 n).count m + 0 + (0 + 0 + 0 + 0) + 0 = _
    omega
  refine ⟨fun m _ p h => (by rw [hp] at h; cases h), fun m hm => .inr ⟨hd m, ?_⟩, fun m hm => ?_⟩
  · rw [hc]
    rw [hn] at hm
    have := (nodup_nmRow 0 n).count (a := m)
    rw [this, if_pos hm]
  · rw [hc]
    rw [hn] at hm
    exact List.count_eq_zero.mpr hm
end K34
set_option autoImplicit true
set_option autoImplicit false
namespace K34

/-! ### the room in which a law's rows are cut -/
structure Rm where
  hand : Nat
  other : Nat
  taken : Nat
  given : Nat
  now : List Stch
  rows : List (List Stch × Bool)
  lies : W → Option Nat
  put : W → Option Nat
def Rm.liesN (rm : Rm) (k : W) : Nat := (rm.lies k).getD 0
def turnOf (rm : Rm) : Bool := decide (0 < rm.hand - rm.taken) || decide ((rm.taken + 2 * rm.given) % 5 = 1)
def rowEnd (rm : Rm) : Rm :=
  { hand := rm.other + rm.given, other := rm.hand - rm.taken, taken := 0, given := 0, now := [], rows := rm.rows ++ [(rm.now, turnOf rm)],
    lies := fun k => match rm.put k with | some n => some n | none => rm.lies k, put := fun _ => none }
def app (rm : Rm) (st : Stch) : Rm := { rm with now := rm.now ++ [st], taken := rm.taken + st.takes, given := rm.given + st.gives }
def setP (f : W → Option Nat) (k : W) (n : Nat) : W → Option Nat := fun j => if j = k then some n else f j
def addM (rm : Rm) : Stch → Rm
  | .fetch k => if 0 < rm.liesN k ∧ rm.put k = none then { rm with now := rm.now ++ List.replicate (rm.liesN k) (.fetch k), given := rm.given + rm.liesN k, put := setP rm.put k 0 } else rm
  | .keep k => if 0 < rm.liesN k ∧ rm.put k = none then app rm (.plain false) else app { rm with put := setP rm.put k ((rm.put k).getD 0 + 1) } (.keep k)
  | st => app rm st
def ndAt (n0 : Nat) (rows : List (List Stch × Bool)) (j : Nat) : Nd := (rows.take j).foldl (fun nd q => work nd q.1) (newNd n0)
structure Good (nd : Nd) (row : List Stch) (turn : Bool) : Prop where
  ok : NdOk nd
  ft : Fits nd row turn
  row : row.length ≤ 5000
  right : nd.right.length ≤ 10000
  gone : nd.gone.length ≤ 10000
  made : nd.made.length ≤ 10000
def Stch.edg (s : Stch) : Nat := ((s.draws.getD []).map List.length).sum
theorem sum_rep (n a : Nat) : (List.replicate n a).sum = n * a := List.sum_replicate_nat
theorem edg_le (s : Stch) : s.edg ≤ 8 := by
  cases s with
  | lean m r f =>
    show (([if r then (List.range (m.val + 2)).reverse else List.range (m.val + 2)] : List (List Nat)).map List.length).sum ≤ 8
    cases r <;> simp <;> omega
  | grow m f =>
    show ((List.replicate (m.val + 2) [0]).map List.length).sum ≤ 8
    rw [List.map_replicate, sum_rep]
    show (m.val + 2) * 1 ≤ 8
    omega
  | cross a b v f =>
    show ((((List.range (b.val + 1)).map fun k => [a.val + 1 + k]) ++ ((List.range (a.val + 1)).map fun k => [k])).map List.length).sum ≤ 8
    have h : ∀ (n : Nat) (g : Nat → List Nat), (∀ k, (g k).length = 1) → (((List.range n).map g).map List.length).sum = n := fun n g hg => by
      rw [List.map_map]
      have : (List.range n).map (List.length ∘ g) = List.replicate n 1 := by
        refine List.eq_replicate_iff.mpr ⟨by simp, fun b hb => ?_⟩
        obtain ⟨k, _, rfl⟩ := List.mem_map.mp hb
        exact hg k
      rw [this, sum_rep, Nat.mul_one]
    rw [List.map_append, List.sum_append, h _ _ (fun _ => rfl), h _ _ (fun _ => rfl)]
    omega
  | _ => simp [Stch.edg, Stch.draws]
theorem gives_le (s : Stch) : s.gives ≤ 8 := by
  cases s <;> simp [Stch.gives, Stch.ties, Stch.draws] <;> omega
theorem fresh_edg {R : Nat} {back : Bool} {many : Nat} : ∀ (row : List Stch) (m : Mid), (((row.foldl (stStep R back many) m).fresh).map List.length).sum = (m.fresh.map List.length).sum + sumS Stch.edg row
  | [], m => rfl
  | s :: row, m => by
    rw [List.foldl_cons, fresh_edg row, sumS_cons]
    have : ((stStep R back many m s).fresh.map List.length).sum = (m.fresh.map List.length).sum + s.edg := by
      cases hd : s.draws with
      | some pss =>
        rw [stStep_draw hd]
        simp only [List.map_append, List.map_map, List.sum_append]
        congr 1
        unfold Stch.edg
        rw [hd]
        show _ = (pss.map List.length).sum
        congr 1
        refine List.map_congr_left fun ps _ => ?_
        simp only [Function.comp_def, length_fac, List.length_map]
      | none =>
        have he : s.edg = 0 := by unfold Stch.edg; rw [hd]; rfl
        rw [he]
        cases s <;> first | rfl | cases hd
    omega
theorem work_names (nd : Nd) (row : List Stch) : (names (work nd row).made).length = (names nd.made).length + (endMid nd row).fresh.length := by
  show (names (nd.made ++ [fac nd.back (endMid nd row).fresh])).length = _
  rw [names_snoc, List.length_append, length_nmRow, length_fac]
theorem work_edges (nd : Nd) (row : List Stch) : (eNames (work nd row).made (names (work nd row).made)).length = (eNames nd.made (names nd.made)).length + sumS Stch.edg row := by
  show (eNames (nd.made ++ [fac nd.back (endMid nd row).fresh]) (names (nd.made ++ [fac nd.back (endMid nd row).fresh]))).length = _
  rw [eNames_snoc]
  congr 1
  have h1 : ((fac nd.back (endMid nd row).fresh).map List.length).sum = ((endMid nd row).fresh.map List.length).sum := by
    cases nd.back
    · rfl
    · show (((endMid nd row).fresh.reverse).map List.length).sum = _
      rw [List.map_reverse, List.sum_reverse]
  rw [h1]
  unfold endMid rowTo
  rw [List.take_length, fresh_edg]
  exact Nat.zero_add _
theorem ndAt_take {n0 : Nat} {rows : List (List Stch × Bool)} {q : List Stch × Bool} {j : Nat} (h : j ≤ rows.length) : ndAt n0 (rows ++ [q]) j = ndAt n0 rows j := by
  unfold ndAt
  rw [List.take_append_of_le_length h]
theorem ndAt_snoc {n0 : Nat} {rows : List (List Stch × Bool)} {q : List Stch × Bool} : ndAt n0 (rows ++ [q]) (rows.length + 1) = work (ndAt n0 rows rows.length) q.1 := by
  unfold ndAt
  rw [List.take_of_length_le (by simp), List.foldl_append, List.take_length]
  rfl
theorem ndAt_made (n0 : Nat) (rows : List (List Stch × Bool)) : ∀ j, j ≤ rows.length → (ndAt n0 rows j).made.length = j + 1 := fun j => by
  induction j with
  | zero => intro _; rfl
  | succ j ih =>
    intro h
    have e : ndAt n0 rows (j + 1) = work (ndAt n0 rows j) (rows[j]).1 := by
      unfold ndAt
      rw [List.take_add_one, List.getElem?_eq_getElem (by omega), List.foldl_append]
      rfl
    rw [e, work_made, ih (by omega)]
/-- the room keeps pace with the needles -/
structure Sim (n0 i : Nat) (rm : Rm) (nd : Nd) : Prop where
  at_ : nd = ndAt n0 rm.rows rm.rows.length
  ok : ∀ j q, rm.rows[j]? = some q → Good (ndAt n0 rm.rows j) q.1 q.2
  nok : NdOk nd
  hand : rm.hand = nd.left.length
  other : rm.other = nd.right.length
  lies : ∀ k, rm.liesN k = (nd.held k).length
  taken : rm.taken = sumS Stch.takes rm.now
  given : rm.given = sumS Stch.gives rm.now
  le : rm.taken ≤ rm.hand
  putN : ∀ k, rm.put k = none → namedIn rm.now k = false
  putS : ∀ k n, rm.put k = some n → sumS (Stch.isF k) rm.now = rm.liesN k ∧ sumS (Stch.isH k) rm.now = n ∧ namedIn rm.now k = true
  psi : (rm.hand - rm.taken) + rm.other + rm.given + sumW (fun k => (rm.put k).getD (rm.liesN k)) ≤ 8 + 8 * i
  nowb : rm.now.length + sumW (fun k => if rm.put k = none then rm.liesN k else 0) ≤ 8 + 9 * i
  nms : (names nd.made).length + sumS Stch.news rm.now ≤ 8 + 8 * i
  eds : (eNames nd.made (names nd.made)).length + sumS Stch.edg rm.now ≤ 8 * i
  gon : nd.gone.length + sumS Stch.isB rm.now ≤ i
  rws : rm.rows.length + (if rm.now = [] then 0 else 1) ≤ i
theorem Sim.up {n0 i j : Nat} {rm : Rm} {nd : Nd} (S : Sim n0 i rm nd) (h : i ≤ j) : Sim n0 j rm nd := by
  have a := S.psi
  have b := S.nowb
  have c := S.nms
  have d := S.eds
  have e := S.gon
  have f := S.rws
  exact ⟨S.at_, S.ok, S.nok, S.hand, S.other, S.lies, S.taken, S.given, S.le, S.putN, S.putS, by omega, by omega, by omega, by omega, by omega, by omega⟩
theorem Sim.start {n0 : Nat} (h : n0 ≤ 8) : Sim n0 0 ⟨n0, 0, 0, 0, [], [], fun _ => none, fun _ => none⟩ (newNd n0) := by
  have hn : names (newNd n0).made = nmRow 0 n0 := by
    show names [List.replicate n0 []] = _
    rw [names_one, List.length_replicate]
  refine ⟨rfl, fun j q e => by simp at e, NdOk.new n0, ?_, rfl, fun k => rfl, rfl, rfl, Nat.zero_le _, fun k _ => rfl, fun k n e => (by cases e), ?_, ?_, ?_, ?_, ?_, ?_⟩
  · show n0 = ((List.range n0).map _).length
    simp
  · show n0 - 0 + 0 + 0 + (0 + 0 + 0 + 0) ≤ _; omega
  · show 0 + (0 + 0 + 0 + 0) ≤ _; omega
  · rw [hn, length_nmRow]; show n0 + 0 ≤ _; omega
  · have : eNames (newNd n0).made (names (newNd n0).made) = [] := by
      unfold eNames
      rw [hn]
      refine List.flatMap_eq_nil_iff.mpr fun m hm => ?_
      have : par (newNd n0).made m = [] := by
        show ([List.replicate n0 []].getD m.1 []).getD m.2 [] = []
        rw [(mem_nmRow.mp hm).1]
        show (List.replicate n0 ([] : List Name)).getD m.2 [] = []
        rw [List.getD_eq_getElem?_getD, List.getElem?_replicate]
        by_cases q : m.2 < n0
        · rw [if_pos q]; rfl
        · rw [if_neg q]; rfl
      rw [this]; rfl
    rw [this]; exact Nat.le_refl _
  · exact Nat.le_refl _
  · exact Nat.le_refl _
theorem Sim.fits {n0 i : Nat} {rm : Rm} {nd : Nd} (S : Sim n0 i rm nd) (hi : i ≤ 200) : Good nd rm.now (turnOf rm) := by
  refine ⟨S.nok, ⟨by rw [← S.taken, ← S.hand]; exact S.le, fun h => ?_, fun k h => ?_⟩, ?_, ?_, ?_, ?_⟩
  · rw [← S.taken, ← S.hand] at h
    unfold turnOf
    rw [decide_eq_true (by omega), Bool.true_or]
  · cases e : rm.put k with
    | none => rw [S.putN k e] at h; cases h
    | some n => rw [(S.putS k n e).1, S.lies]
  · have := S.nowb; omega
  · have := S.psi; have := S.other; omega
  · have := S.gon; omega
  · rw [S.at_, ndAt_made _ _ _ (Nat.le_refl _)]
    have := S.rws
    omega
theorem Sim.rowEnd {n0 i : Nat} {rm : Rm} {nd : Nd} (S : Sim n0 i rm nd) (hi : i ≤ 200) (hn : rm.now ≠ []) : Sim n0 i (rowEnd rm) (work nd rm.now) := by
  have G := S.fits hi
  obtain ⟨N, hf⟩ := S.nok.work G.ft
  have hp : ∀ k, (K34.rowEnd rm).liesN k = (rm.put k).getD (rm.liesN k) := fun k => by
    show (match rm.put k with | some n => some n | none => rm.lies k : Option Nat).getD 0 = (rm.put k).getD ((rm.lies k).getD 0)
    cases rm.put k <;> rfl
  have hps := S.psi
  have hwn := work_names nd rm.now
  have hwe := work_edges nd rm.now
  have hwg := work_gone nd rm.now
  refine ⟨?_, fun j q e => ?_, N, ?_, ?_, fun k => ?_, rfl, rfl, Nat.zero_le _, fun k _ => rfl, fun k n e => (by cases e), ?_, ?_, ?_, ?_, ?_, ?_⟩
  · show _ = ndAt n0 (rm.rows ++ [(rm.now, turnOf rm)]) (rm.rows ++ [(rm.now, turnOf rm)]).length
    rw [List.length_append]
    show _ = ndAt n0 (rm.rows ++ [(rm.now, turnOf rm)]) (rm.rows.length + 1)
    rw [ndAt_snoc, ← S.at_]
  · have e : (rm.rows ++ [(rm.now, turnOf rm)])[j]? = some q := e
    show Good (ndAt n0 (rm.rows ++ [(rm.now, turnOf rm)]) j) q.1 q.2
    rw [List.getElem?_append] at e
    by_cases h : j < rm.rows.length
    · rw [if_pos h] at e
      rw [ndAt_take (by omega)]
      exact S.ok j q e
    · rw [if_neg h] at e
      have hj : j = rm.rows.length := by
        have := (List.getElem?_eq_some_iff.mp e).1
        simp at this
        omega
      subst hj
      rw [Nat.sub_self] at e
      cases e
      rw [ndAt_take (Nat.le_refl _), ← S.at_]
      exact G
  · show rm.other + rm.given = _
    rw [work_left, S.other, S.given]
  · show rm.hand - rm.taken = _
    rw [work_right, S.hand, S.taken]
  · rw [hp, work_held]
    cases e : rm.put k with
    | none =>
      have := S.putN k e
      rw [if_neg (by rw [this]; decide)]
      exact S.lies k
    | some n =>
      obtain ⟨_, h2, h3⟩ := S.putS k n e
      rw [if_pos h3, h2]
      rfl
  · show (rm.other + rm.given - 0) + (rm.hand - rm.taken) + 0 + sumW (fun k => (K34.rowEnd rm).liesN k) ≤ _
    rw [sumW_eq hp]
    omega
  · show 0 + sumW (fun k => (K34.rowEnd rm).liesN k) ≤ _
    rw [sumW_eq hp]
    omega
  · show _ + 0 ≤ _
    have := S.nms
    unfold manyIn at hf
    omega
  · show _ + 0 ≤ _
    have := S.eds
    omega
  · show _ + 0 ≤ _
    have := S.gon
    omega
  · show (rm.rows ++ [(rm.now, turnOf rm)]).length + 0 ≤ _
    have := S.rws
    rw [if_neg hn] at this
    rw [List.length_append]
    exact this
theorem named_snoc (row : List Stch) (s : Stch) (k : W) : namedIn (row ++ [s]) k = (namedIn row k || (decide (0 < s.isF k) || decide (0 < s.isH k))) := by
  unfold namedIn
  rw [List.any_append]
  simp
theorem sumS_one (f : Stch → Nat) (row : List Stch) (s : Stch) : sumS f (row ++ [s]) = sumS f row + f s := by
  rw [sumS_append, sumS_cons, sumS_nil, Nat.add_zero]
theorem Sim.app {n0 i : Nat} {rm : Rm} {nd : Nd} (S : Sim n0 i rm nd) (st : Stch) (h : st.takes ≤ rm.hand - rm.taken) (hf : ∀ k, st.isF k = 0) (hh : ∀ k, st.isH k = 0) : Sim n0 (i + 1) (app rm st) nd := by
  have a := S.psi
  have b := S.nowb
  have c := S.nms
  have d := S.eds
  have e := S.gon
  have f := S.rws
  have g := S.le
  have hn : ∀ k, namedIn (rm.now ++ [st]) k = namedIn rm.now k := fun k => by
    rw [named_snoc, hf, hh]; simp
  have z1 := gives_le st
  have z2 := edg_le st
  have z3 := news_le st
  have z4 : st.isB ≤ 1 := by cases st <;> simp [Stch.isB]
  refine ⟨S.at_, S.ok, S.nok, S.hand, S.other, S.lies, ?_, ?_, ?_, fun k q => ?_, fun k n q => ?_, ?_, ?_, ?_, ?_, ?_, ?_⟩
  · show rm.taken + st.takes = _
    rw [S.taken]; exact (sumS_one _ _ _).symm
  · show rm.given + st.gives = _
    rw [S.given]; exact (sumS_one _ _ _).symm
  · show rm.taken + st.takes ≤ rm.hand
    omega
  · show namedIn (rm.now ++ [st]) k = false
    rw [hn]; exact S.putN k q
  · show sumS _ (rm.now ++ [st]) = _ ∧ sumS _ (rm.now ++ [st]) = _ ∧ namedIn (rm.now ++ [st]) k = true
    rw [sumS_one, sumS_one, hn, hf, hh]
    exact S.putS k n q
  · show (rm.hand - (rm.taken + st.takes)) + rm.other + (rm.given + st.gives) + sumW (fun k => (rm.put k).getD (rm.liesN k)) ≤ _
    omega
  · show (rm.now ++ [st]).length + sumW (fun k => if rm.put k = none then rm.liesN k else 0) ≤ _
    rw [List.length_append]
    show rm.now.length + 1 + _ ≤ _
    omega
  · show _ + sumS _ (rm.now ++ [st]) ≤ _
    rw [sumS_one]; omega
  · show _ + sumS _ (rm.now ++ [st]) ≤ _
    rw [sumS_one]; omega
  · show _ + sumS _ (rm.now ++ [st]) ≤ _
    rw [sumS_one]; omega
  · show rm.rows.length + (if rm.now ++ [st] = [] then 0 else 1) ≤ _
    rw [if_neg (by simp)]
    omega
theorem Sim.addM {n0 i : Nat} {rm : Rm} {nd : Nd} (S : Sim n0 i rm nd) (st : Stch) (h : st.takes ≤ rm.hand - rm.taken) : Sim n0 (i + 1) (addM rm st) nd := by
  have a := S.psi
  have b := S.nowb
  have c := S.nms
  have d := S.eds
  have e := S.gon
  have f := S.rws
  have g := S.le
  cases st with
  | fetch k =>
    show Sim n0 (i + 1) (if _ then _ else _) nd
    by_cases q : 0 < rm.liesN k ∧ rm.put k = none
    · rw [if_pos q]
      have hs : ∀ (f : Stch → Nat), sumS f (rm.now ++ List.replicate (rm.liesN k) (.fetch k)) = sumS f rm.now + rm.liesN k * f (.fetch k) := fun f => by
        rw [sumS_append]
        congr 1
        unfold sumS
        rw [List.map_replicate, List.sum_replicate_nat]
      have hn : ∀ j, namedIn (rm.now ++ List.replicate (rm.liesN k) (.fetch k)) j = (namedIn rm.now j || decide (j = k)) := fun j => by
        unfold namedIn
        rw [List.any_append]
        congr 1
        rw [List.any_replicate, if_neg (by omega)]
        by_cases z : k = j
        · subst z; simp [Stch.isF]
        · simp [Stch.isF, Stch.isH, z, show ¬ j = k from fun y => z y.symm]
      obtain ⟨q1, q2⟩ := q
      have n0' := not_named (row := rm.now) (k := k) (by rw [S.putN k q2]; decide)
      refine ⟨S.at_, S.ok, S.nok, S.hand, S.other, S.lies, ?_, ?_, S.le, fun j z => ?_, fun j n z => ?_, ?_, ?_, ?_, ?_, ?_, ?_⟩
      · show rm.taken = _
        rw [S.taken]; exact ((hs _).trans (by show _ + _ * 0 = _; rw [Nat.mul_zero, Nat.add_zero])).symm
      · show rm.given + rm.liesN k = _
        rw [S.given]; exact ((hs _).trans (by show _ + _ * 1 = _; rw [Nat.mul_one])).symm
      · have z : (if j = k then some 0 else rm.put j) = none := z
        show namedIn (rm.now ++ List.replicate (rm.liesN k) (.fetch k)) j = false
        by_cases y : j = k
        · rw [if_pos y] at z; cases z
        · rw [if_neg y] at z
          rw [hn, S.putN j z, decide_eq_false y]; rfl
      · have z : (if j = k then some 0 else rm.put j) = some n := z
        show sumS _ (rm.now ++ List.replicate (rm.liesN k) (.fetch k)) = rm.liesN j ∧ sumS _ (rm.now ++ List.replicate (rm.liesN k) (.fetch k)) = n ∧ namedIn (rm.now ++ List.replicate (rm.liesN k) (.fetch k)) j = true
        rw [hs, hs, hn]
        by_cases y : j = k
        · subst y
          rw [if_pos rfl] at z
          cases z
          rw [n0'.1, n0'.2]
          simp [Stch.isF, Stch.isH]
        · rw [if_neg y] at z
          have hF : Stch.isF j (.fetch k) = 0 := if_neg fun w => y w.symm
          have hH : Stch.isH j (.fetch k) = 0 := rfl
          rw [hF, hH, Nat.mul_zero, Nat.add_zero, Nat.add_zero]
          obtain ⟨u1, u2, u3⟩ := S.putS j n z
          exact ⟨u1, u2, by rw [u3]; rfl⟩
      · show rm.hand - rm.taken + rm.other + (rm.given + rm.liesN k) + sumW (fun j => (if j = k then some 0 else rm.put j).getD (rm.liesN j)) ≤ _
        unfold sumW at a ⊢
        cases k <;> simp [q2] at a ⊢ <;> omega
      · show (rm.now ++ List.replicate (rm.liesN k) (Stch.fetch k)).length + sumW (fun j => if (if j = k then some 0 else rm.put j) = none then rm.liesN j else 0) ≤ _
        rw [List.length_append, List.length_replicate]
        unfold sumW at b ⊢
        cases k <;> simp [q2] at b ⊢ <;> omega
      · show _ + sumS _ (rm.now ++ List.replicate (rm.liesN k) (.fetch k)) ≤ _
        rw [hs]
        have : Stch.news (.fetch k) = 0 := rfl
        rw [this, Nat.mul_zero]
        omega
      · show _ + sumS _ (rm.now ++ List.replicate (rm.liesN k) (.fetch k)) ≤ _
        rw [hs]
        have : Stch.edg (.fetch k) = 0 := rfl
        rw [this, Nat.mul_zero]
        omega
      · show _ + sumS _ (rm.now ++ List.replicate (rm.liesN k) (.fetch k)) ≤ _
        rw [hs]
        have : Stch.isB (.fetch k) = 0 := rfl
        rw [this, Nat.mul_zero]
        omega
      · show rm.rows.length + (if _ then 0 else 1) ≤ _
        split <;> omega
    · rw [if_neg q]
      exact S.up (by omega)
  | keep k =>
    show Sim n0 (i + 1) (if _ then _ else _) nd
    by_cases q : 0 < rm.liesN k ∧ rm.put k = none
    · rw [if_pos q]
      exact S.app (.plain false) h (fun _ => rfl) fun _ => rfl
    · rw [if_neg q]
      have ht : 1 ≤ rm.hand - rm.taken := h
      have hn : ∀ j, namedIn (rm.now ++ [.keep k]) j = (namedIn rm.now j || decide (j = k)) := fun j => by
        rw [named_snoc]
        congr 1
        by_cases z : k = j
        · subst z; simp [Stch.isH]
        · simp [Stch.isF, Stch.isH, z, show ¬ j = k from fun y => z y.symm]
      refine ⟨S.at_, S.ok, S.nok, S.hand, S.other, S.lies, ?_, ?_, ?_, fun j z => ?_, fun j n z => ?_, ?_, ?_, ?_, ?_, ?_, ?_⟩
      · show rm.taken + 1 = _
        rw [S.taken]; exact (sumS_one Stch.takes rm.now (.keep k)).symm
      · show rm.given + 0 = _
        rw [S.given]; exact (sumS_one Stch.gives rm.now (.keep k)).symm
      · show rm.taken + 1 ≤ rm.hand
        omega
      · have z : (if j = k then some _ else rm.put j) = none := z
        show namedIn (rm.now ++ [.keep k]) j = false
        by_cases y : j = k
        · rw [if_pos y] at z; cases z
        · rw [if_neg y] at z
          rw [hn, S.putN j z, decide_eq_false y]; rfl
      · have z : (if j = k then some ((rm.put k).getD 0 + 1) else rm.put j) = some n := z
        show sumS _ (rm.now ++ [.keep k]) = rm.liesN j ∧ sumS _ (rm.now ++ [.keep k]) = n ∧ namedIn (rm.now ++ [.keep k]) j = true
        rw [sumS_one, sumS_one, hn]
        by_cases y : j = k
        · subst y
          rw [if_pos rfl] at z
          have z := Option.some.inj z
          have hF : Stch.isF j (.keep j) = 0 := rfl
          have hH : Stch.isH j (.keep j) = 1 := if_pos rfl
          rw [hF, hH]
          cases hp : rm.put j with
          | none =>
            have n0' := not_named (row := rm.now) (k := j) (by rw [S.putN j hp]; decide)
            rw [n0'.1, n0'.2]
            rw [hp] at z
            have hl : ¬ 0 < rm.liesN j := fun w => q ⟨w, hp⟩
            refine ⟨by omega, ?_, by simp⟩
            rw [← z]; rfl
          | some m =>
            obtain ⟨u1, u2, u3⟩ := S.putS j m hp
            rw [hp] at z
            refine ⟨by omega, ?_, by simp⟩
            rw [u2, ← z]; rfl
        · rw [if_neg y] at z
          have hF : Stch.isF j (.keep k) = 0 := rfl
          have hH : Stch.isH j (.keep k) = 0 := if_neg fun w => y w.symm
          rw [hF, hH, Nat.add_zero, Nat.add_zero]
          obtain ⟨u1, u2, u3⟩ := S.putS j n z
          exact ⟨u1, u2, by rw [u3]; rfl⟩
      · show rm.hand - (rm.taken + 1) + rm.other + (rm.given + 0) + sumW (fun j => (if j = k then some ((rm.put k).getD 0 + 1) else rm.put j).getD (rm.liesN j)) ≤ _
        have hx : (rm.put k).getD 0 ≤ (rm.put k).getD (rm.liesN k) := by
          cases rm.put k
          · exact Nat.zero_le _
          · exact Nat.le_refl _
        unfold sumW at a ⊢
        cases k <;> simp at a ⊢ <;> omega
      · show (rm.now ++ [Stch.keep k]).length + sumW (fun j => if (if j = k then some ((rm.put k).getD 0 + 1) else rm.put j) = none then rm.liesN j else 0) ≤ _
        rw [List.length_append]
        show rm.now.length + 1 + _ ≤ _
        unfold sumW at b ⊢
        cases k <;> simp at b ⊢ <;> omega
      · show _ + sumS _ (rm.now ++ [.keep k]) ≤ _
        rw [sumS_one]
        have : Stch.news (.keep k) = 0 := rfl
        omega
      · show _ + sumS _ (rm.now ++ [.keep k]) ≤ _
        rw [sumS_one]
        have : Stch.edg (.keep k) = 0 := rfl
        omega
      · show _ + sumS _ (rm.now ++ [.keep k]) ≤ _
        rw [sumS_one]
        have : Stch.isB (.keep k) = 0 := rfl
        omega
      · show rm.rows.length + (if _ then 0 else 1) ≤ _
        split <;> omega
  | plain f => exact S.app _ h (fun _ => rfl) fun _ => rfl
  | slip => exact S.app _ h (fun _ => rfl) fun _ => rfl
  | over => exact S.app _ h (fun _ => rfl) fun _ => rfl
  | lean m r f => exact S.app _ h (fun _ => rfl) fun _ => rfl
  | grow m f => exact S.app _ h (fun _ => rfl) fun _ => rfl
  | cross x y v f => exact S.app _ h (fun _ => rfl) fun _ => rfl
  | off => exact S.app _ h (fun _ => rfl) fun _ => rfl
end K34
set_option autoImplicit true
set_option Elab.async false
set_option linter.all false
set_option maxRecDepth 100000
set_option maxHeartbeats 4000000
/-! Own rules over the layer. -/
namespace K34
open PySem PySem.Spec PyProof.Rows L2

/-! ### a choice of readings -/
section
variable {X : Cx} {e : Expr}
theorem pe_any {ι : Type} {t : ι → TE} (h : ∀ i, PE X e (t i)) : PE X e (fun σ H Q => ∃ i, t i σ H Q) :=
  ⟨fun pins s σ H Q I ⟨i, q⟩ => (h i).run pins s σ H Q I q⟩
end

/-! ### a class that is made by object's own init -/
structure Bare (K : PySem.W.Frag) (C : Addr) : Prop where
  makes : PySem.W.makesIn K C = true
  init : PySem.W.findIn K (.ref C) "__init__" = some (some (.builtin "object.__init__"))
  kp : PySem.W.keepIn K (.ref C) = true
def tBare (C : Addr) : TE := fun _ H Q => ∀ x dx, H x = none → H dx = none → dx ≠ x → Q (.ref x) (upd (upd H dx (.own x)) x (.ins C dx []))
theorem pe_bare {X : Cx} {C : Addr} {x : Str} {p pos : Pos} (M : Bare X.K C) (hg : Gl X x) (hm : X.mg x = some (.ref C)) (hdb : (x == ("__debug__" : Str)) = false := by decide) : PE X (.Call (.Name x p) [] [] pos) (tBare C) := by
  refine ⟨fun pins s σ H Q I h => ?_⟩
  refine wpAny_Call_Name_kw (ld_glob I hg hm ?_ hdb)
  refine PySem.W.callWith_K0 I.kIn M.kp ?_
  have hq := h (s.heap.objs.size + 1) s.heap.objs.size (I.hok.fresh (Nat.le_succ _)) (I.hok.fresh (Nat.le_refl _)) (Nat.ne_of_lt (Nat.lt_succ_self _))
  have I2 := Inv.made (C := C) I
  refine wpAny_call (make_map0 I.kIn M.makes M.init (fun self => PySem.W.Looks.of_pure (PySem.W.oi_bind self)) ?_)
  have Y := PySem.W.makes_of (M := model X.prog X.w) I.kIn M.makes
  have hob : ((s.heap.push PySem.W.emptyDict).push (PySem.W.instObj C s.heap.objs.size)).get? (s.heap.objs.size + 1) = some (PySem.W.instObj C s.heap.objs.size) := by
    have := Heap.get?_push_size (s.heap.push PySem.W.emptyDict) (o := PySem.W.instObj C s.heap.objs.size) rfl
    rwa [Heap.size_push] at this
  have t1 : PySem.W.Looks (model X.prog X.w) ((s.heap.push PySem.W.emptyDict).push (PySem.W.instObj C s.heap.objs.size)) (typeOf (.ref (s.heap.objs.size + 1))) (.ref C) := (PySem.W.Looks.ld hob).andThen .now
  have t2 : PySem.W.Looks (model X.prog X.w) ((s.heap.push PySem.W.emptyDict).push (PySem.W.instObj C s.heap.objs.size)) (isInstance (.ref (s.heap.objs.size + 1)) (.type "object")) true :=
    t1.andThen (Y.top.keeps fun b o e => Heap.get?_push_of_some _ (Heap.get?_push_of_some _ e))
  refine codeAny_call_builtin PySem.W.oi_plain PySem.W.entry_oi (@PySem.W.check_slot (model X.prog X.w) _ _ _ "object.__init__" "object" "__init__" (.ref (s.heap.objs.size + 1)) [] [] _ PySem.W.oi_kind PySem.W.oi_split t2 (PySem.W.oi_args (.ref (s.heap.objs.size + 1))) ?_)
  rw [PySem.W.oi_run]
  exact wpAny_pure (And.intro rfl ⟨.ref (s.heap.objs.size + 1), _, I2, rfl, hq⟩)

/-! ### d.update(e), two dicts with text keys -/
def rDUpd : V → List V → Hp → VK → Prop := fun x vs H Q => ∃ (a b : Addr) (kvs ms : List (Key × V)), x = .ref a ∧ vs = [.ref b] ∧ H a = some (.dK kvs) ∧ H b = some (.dK ms) ∧ a ≠ b ∧ kvs.length + ms.length ≤ sizeLine ∧
  Q .non (upd H a (.dK (mergeK kvs ms)))
theorem mt_dupd {X : Cx} : MtR X "dict.update" rDUpd := by
  intro pins s σ H x xs v us Q I rx rv h
  obtain ⟨a, b, kvs, ms, rfl, rfl, ha, hb, hne, hsz, q⟩ := h
  obtain rfl : v = Value.ref a := rx
  obtain rfl := rv.ref1
  obtain ⟨z1, hd1, vs1, rel1, dd1⟩ := dk_of I.hok ha
  obtain ⟨z2, hd2, vs2, rel2, dd2⟩ := dk_of I.hok hb
  refine call_meetsIn PySem.F.slot_dict_update dd1.typeIs PySem.F.entry_dict_update (PySem.F.args_dict_update_2 _ _) (meets_dict_update (mixKind X.prog X.w) a b hne hd2)
    ⟨vs1, vs2, dd1, dd2, by rw [← rel1.length, ← rel2.length]; exact hsz, fun h' dd' dd2' hs => ?_⟩
  have he : ∃ q, h'.get? a = some q := let ⟨q, _, _, hq, _⟩ := dd'; ⟨q, hq⟩
  refine ⟨.non, _, d_write (t' := s.toks) I (by rw [ha]; exact True.intro) hs he (dk_new (Nat.le_trans (length_mergeK _ _) hsz) hd1 (KV.merge rel2 rel1) dd'), rfl, q⟩

/-! ### xs.count(z), texts -/
def rCntS (K : PySem.W.Frag) : V → List V → Hp → VK → Prop := fun x xs H Q => ∃ (p : Addr) (zs : List V) (z : V), x = .ref p ∧ xs = [z] ∧ SqL K H p zs ∧ flatV z = true ∧ zs.all flatV = true ∧ Q (.int (zs.countP fun y => eqV y z : Nat)) H
theorem count_eqU {x : V} : ∀ {xs : List V} {us : List Value}, Vals xs us → xs.all flatV = true → us.countP (eqU x) = xs.countP fun y => eqV y x
  | _, _, .nil, _ => rfl
  | y :: xs, u :: us, .cons r t, f => by
    rw [List.all_cons, Bool.and_eq_true] at f
    rw [List.countP_cons, List.countP_cons, eqU_of r f.1, count_eqU t f.2]
theorem mt_cntS {X : Cx} : MtR X "list.count" (rCntS X.K) := by
  intro pins s σ H x xs v us Q I rx rxs h
  obtain ⟨p, zs, z, rfl, rfl, hs, fz, fa, q⟩ := h
  cases rx
  obtain ⟨u, rfl, ru⟩ := rxs.one
  obtain ⟨its, rv, ⟨⟨cls, dd, data, sl⟩, n, ho, hc, hdn, hd⟩, hlen⟩ := I.list hs
  simp only at hc hd
  subst hc hd
  refine call_meets PySem.F.slot_list_count ⟨_, ho, rfl⟩ PySem.F.entry_list_count (PySem.F.args_list_count_2 _ _)
    (SeqAt.list_countAt p its.toArray n dd sl u (eqU z)) ⟨ho, fun y hy => mem_eqAt ru fz rv fa y (by simpa using hy), ?_⟩
  have ec : its.toArray.toList.countP (eqU z) = zs.countP fun y => eqV y z := by
    rw [List.toList_toArray]
    exact count_eqU rv fa
  refine ⟨.int (zs.countP fun y => eqV y z : Nat), H, I.tok _, ⟨s.toks, ?_⟩, q⟩
  show Value.int ((its.toArray.toList.countP (eqU z) : Nat) : Int) s.toks = _
  rw [ec]

/-! ### list(reversed(xs)) -/
section
variable {prog : Program} {w : World} {A : Around} {E : Value → Shared → Prop} {s : Shared}
theorem revit_extend {it l S : Addr} {items : Array Value} {res : Value} {R : Result → Shared → Prop} (hh : A.handled = none) (hit : s.heap.IsRevIter it l ((items.size : Int) - 1)) (hl : s.heap.IsList l items) (hne : l ≠ it)
    (hSi : S ≠ it) (hSl : S ≠ l) (hn : items.size ≤ sizeLine) (hS : s.heap.get? S = some { cls := .type "list", data := .seq #[] })
    (hR : ∀ (h' : Heap) (tk : Nat) (acc : Array Value) (c : Nat), (∀ b o, b ≠ it → b ≠ S → s.heap.get? b = some o → h'.get? b = some o) → h'.get? S = some { cls := .type "list", dict := none, data := .seq acc c, slots := #[] } →
      ItemsOf (fun i v => items[items.size - 1 - i]? = some v) acc items.size → R (.ok (.ret res)) { s with heap := h', toks := tk }) :
    wpAny (model prog w) A.in1 (Builtin.List.listExtendWith (.ref S) (.ref it) res)
      (fun fin s' => match fin with | .done f => R (.ok f) s' | .again c' => c'.quiet = true ∧ codeAny (model prog w) A c' R s') (fun e s' => R (.error e) s') s := by
  have W := (Walks.listRev (prog := prog) (w := w) (A := A.in1) hh it l hne items).toS
  have hSf : S ∉ [it, l] := by simp only [List.mem_cons, List.not_mem_nil, or_false, not_or]; exact ⟨hSi, hSl⟩
  have hT : s.TypeIs (.ref it) "list_reverseiterator" := Heap.IsRevIter.typeIs hit
  have h1 : Builtin.List.listSameRef (.ref S) (.ref it) = false := by simp [Builtin.List.listSameRef, hSi]
  unfold Builtin.List.listExtendWith
  refine wpAny_bind (wpAny_typeOf hT ?_)
  rw [if_neg (by rw [h1]; decide)]
  refine wpAny_bind (wpAny_pyIter_revIter hit ?_)
  refine wpAny_bind (wpAny_holding ?_)
  unfold Builtin.List.listLengthHint
  refine wpAny_bind (wpAny_specialOf hT RT.nolen_lri ?_)
  show wpAny _ A.in1 (specialOf (Value.ref it) (Str.ofString "__length_hint__") >>= _) _ _ _
  refine wpAny_bind (wpAny_specialOf hT RT.hint_lri ?_)
  generalize hid : ("list_reverseiterator.__length_hint__" : String) = id0
  wp_delta
  rw [show splitId id0 = some ("list_reverseiterator", "__length_hint__") from by subst hid; decide +kernel]
  subst hid
  refine wpAny_bind (wpAny_isInstance (b := true) hT (by rw [isSubtype_type]; kernel_rfl) ?_)
  refine wpAny_pure ?_
  rw [if_neg (by decide)]
  have e0 : ((items.size : Nat) : Int) - 1 - ((0 : Nat) : Int) = (items.size : Int) - 1 := by omega
  refine wpAny_pure ⟨plainId_quiet F.plain_extend_loop _, codeAny_extend_loopS W hn S hSf _ items.size 0 _ _ _ rfl (Nat.zero_le _) ⟨Nat.zero_le _, by rw [e0]; exact hit, hl⟩ hS (ItemsOf.nil _) fun s' acc' c' hm hS' hacc => ?_⟩
  rw [Moved.eq_with hm]
  refine hR s'.heap s'.toks acc' c' (fun b o hb hbS e => hm.heap b o (fun hmem => ?_) e) hS' hacc
  rcases List.mem_cons.mp hmem with e' | hmem
  · exact hbS e'
  · exact hb (List.mem_singleton.mp hmem)
theorem call_list_revit {it l : Addr} {items : Array Value} {Q : Value → Shared → Prop} (hh : A.handled = none) (hit : s.heap.IsRevIter it l ((items.size : Int) - 1)) (hl : s.heap.IsList l items) (hne : l ≠ it) (hn : items.size ≤ sizeLine)
    (hQ : ∀ (h' : Heap) (tk : Nat) (acc : Array Value) (c : Nat), (∀ b o, b ≠ it → s.heap.get? b = some o → h'.get? b = some o) → h'.get? s.heap.objs.size = some { cls := .type "list", dict := none, data := .seq acc c, slots := #[] } →
      ItemsOf (fun i v => items[items.size - 1 - i]? = some v) acc items.size → Q (.ref s.heap.objs.size) { s with heap := h', toks := tk }) :
    wpAny (model prog w) A (call (.type "list") [.ref it]) Q E s := by
  obtain ⟨oi, hoi, _⟩ := id hit
  obtain ⟨ol, hol, _⟩ := id hl
  have hSi : s.heap.objs.size ≠ it := Nat.ne_of_gt (Heap.lt_size hoi)
  have hSl : s.heap.objs.size ≠ l := Nat.ne_of_gt (Heap.lt_size hol)
  refine callType_codes (Q₁ := fun obj s₁ => obj = .ref s.heap.objs.size ∧ s₁ = { s with heap := s.heap.push { cls := .type "list", data := .seq #[] } }) PySem.F.called_list (PySem.F.typeCall_list_1 _) PySem.F.entry_list_init
    (code_list_new _ ⟨rfl, rfl⟩) fun obj s₁ h₁ => ?_
  obtain ⟨rfl, rfl⟩ := h₁
  have hS : (s.heap.push { cls := .type "list", data := .seq #[] }).get? s.heap.objs.size = some { cls := .type "list", data := .seq #[] } := Heap.get?_push_size _ rfl
  refine ⟨⟨_, hS, rfl⟩, PySem.F.args_list_init_2 _ _, ?_⟩
  show wpAny _ _ (do let old ← Builtin.List.listItems (.ref s.heap.objs.size); Builtin.List.listUpdate (.ref s.heap.objs.size) (fun _ => #[]); letGo old.toList.reverse; Builtin.List.listExtendWith (.ref s.heap.objs.size) (.ref it) .none) _ _ _
  refine wpAny_bind ?_
  unfold Builtin.List.listItems
  refine wpAny_bind (wpAny_seqItems hS rfl (wpAny_pure ?_))
  show wpAny _ _ (updateSeq s.heap.objs.size (fun _ => #[]) >>= fun _ => letGo (#[] : Array Value).toList.reverse >>= fun _ => Builtin.List.listExtendWith (.ref s.heap.objs.size) (.ref it) .none) _ _ _
  refine wpAny_bind (wpAny_updateSeq hS rfl ?_)
  have hS2 := Heap.get?_update_self (Obj.mapSeq (fun _ => (#[] : Array Value))) hS rfl
  have oth : ∀ b o, b ≠ s.heap.objs.size → (s.heap.push { cls := .type "list", data := .seq #[] }).get? b = some o → ((s.heap.push { cls := .type "list", data := .seq #[] }).update s.heap.objs.size (Obj.mapSeq (fun _ => (#[] : Array Value)))).get? b = some o :=
    fun b o hb e => (Heap.get?_update_other _ _ (Ne.symm hb)).trans e
  refine wpAny_bind (wpAny_letGo ?_)
  refine revit_extend (A := A.in1) (s := { s with heap := (s.heap.push { cls := .type "list", data := .seq #[] }).update s.heap.objs.size (Obj.mapSeq (fun _ => (#[] : Array Value))) }) hh
    (hit.at fun o e => oth _ _ hSi.symm (Heap.get?_push_of_some _ e)) ((hl.push _).at fun o e => oth _ _ hSl.symm e) hne hSi hSl hn hS2 fun h' tk acc c hk hS' hacc => ?_
  exact ⟨rfl, hQ h' tk acc c (fun b o hb e => hk b o hb (Nat.ne_of_lt (Heap.lt_size e)) (oth b o (Nat.ne_of_lt (Heap.lt_size e)) (Heap.get?_push_of_some _ e))) hS' hacc⟩
end
/-- list(reversed(x)), x a list: a new list -/
def tLstRev (K : PySem.W.Frag) (te : TE) : TE := fun σ H Q => te σ H fun v H1 => ∃ (a : Addr) (xs : List V), v = .ref a ∧ SqL K H1 a xs ∧ ∀ q, H1 q = none → Q (.ref q) (upd H1 q (.lst xs.reverse))
section
variable {X : Cx}
theorem pe_lstRev {e : Expr} {te : TE} {p p2 pos pos2 : Pos} (hc : X.calm = true) (hg : Gl X "list") (hm : X.mg "list" = none) (hg2 : Gl X "reversed") (hm2 : X.mg "reversed" = none) (he : PE X e te)
    (hs : starEach [e] X.env = (false, eval e X.env) :: starEach [] X.env := by rfl)
    (hs2 : starEach [.Call (.Name "reversed" p2) [e] [] pos2] X.env = (false, eval (.Call (.Name "reversed" p2) [e] [] pos2) X.env) :: starEach [] X.env := by rfl) :
    PE X (.Call (.Name "list" p) [.Call (.Name "reversed" p2) [e] [] pos2] [] pos) (tLstRev X.K te) := by
  refine ⟨fun pins s σ H Q I h => ?_⟩
  refine Call_ (ld_blt I hg hm boot_list (PyProof.Rows.callWith_type1 (args_cons (Call_ (ld_blt I hg2 hm2 PyProof.Rows.boot_reversed (PyProof.Rows.callWith_type1 (args_cons (thn (he.run pins s σ H _ I h) fun u s1 ⟨v, H1, I1, r1, q1⟩ => args_nil ?_) hs) hs rfl))) hs2) hs2 rfl))
  obtain ⟨a, xs, ev, hq, q⟩ := q1
  subst ev
  obtain rfl : u = Value.ref a := r1
  obtain ⟨its, rv, p', hz⟩ := I1.list hq
  refine call_reversed_list p'.isList (args_nil ?_)
  have k0 : ∀ b o, s1.heap.get? b = some o → (s1.heap.push (revObj a ((its.toArray.size : Int) - 1))).get? b = some o := fun b o e => Heap.get?_push_of_some _ e
  have I2 : Inv X pins σ H1 { s1 with heap := s1.heap.push (revObj a ((its.toArray.size : Int) - 1)) } := I1.kept (t' := s1.toks) k0
  obtain ⟨f0, f1, f2, f3, f4, f5⟩ := I1.fpOk (H' := H1) (b := s1.heap.objs.size) (Nat.le_refl _) (I1.hok.fresh (Nat.le_refl _))
  have hl := p'.isList
  obtain ⟨ol, hol, _⟩ := id hl
  have hne : a ≠ s1.heap.objs.size := Nat.ne_of_lt (Heap.lt_size hol)
  have hn : its.toArray.size ≤ sizeLine := by rw [List.size_toArray, ← rv.length]; exact hz
  refine call_list_revit (s := { s1 with heap := s1.heap.push (revObj a ((its.toArray.size : Int) - 1)) }) (I1.ok.hd hc) ⟨_, Heap.get?_push_size _ rfl, rfl, rfl⟩ (hl.push _) hne hn fun h' tk acc c hk hS hi => ?_
  have esz : (s1.heap.push (revObj a ((its.toArray.size : Int) - 1))).objs.size = s1.heap.objs.size + 1 := Heap.size_push _ _
  have hfr : H1 (s1.heap.push (revObj a ((its.toArray.size : Int) - 1))).objs.size = none := I1.hok.fresh (by rw [esz]; exact Nat.le_succ _)
  refine ⟨.ref _, upd H1 _ (.lst xs.reverse), I1.laid (t' := tk) (fun b o e => hk b o (Nat.ne_of_lt (Heap.lt_size e)) (k0 b o e)) (by rw [esz]; exact Nat.le_succ _) ?_, rfl, q _ hfr⟩
  refine ⟨by rw [List.length_reverse]; exact hz, acc.toList, c, RT.vals_rev rv hi, ?_⟩
  rw [hS, Array.toArray_toList]
end

/-! ### rules whose reading names K itself (within a comprehension's block) -/
section
variable {X : Cx} {K : PySem.W.Frag}
theorem ix_tupK (h : X.K = K) : IxR X (rIxT K) := by
  subst h
  exact ix_tup
theorem ix_listK (h : X.K = K) : IxR X (rIxL K) := by
  subst h
  exact ix_list
theorem pe_fldK {e : Expr} {f : Str} {pos : Pos} {ta : TE} (h : X.K = K) (he : PE X e ta) (hb : attributeBase e f X.env (eval e X.env) = eval e X.env) : PE X (.Attribute e f pos) (tFld K ta f) := by
  subst h
  exact pe_fld he hb
theorem call_lenK (h : X.K = K) : CallR X (.builtin "len") (fun xs H Q => ∃ p ys, xs = [.ref p] ∧ (SqL K H p ys ∨ SqT K H p ys) ∧ Q (.int ys.length) H) := by
  subst h
  exact call_len_seq
theorem call_listK (h : X.K = K) : CallR X (.type "list") (fun xs H Q => ∃ p ys, xs = [.ref p] ∧ (SqL K H p ys ∨ SqT K H p ys) ∧ ∀ l, H l = none → Q (.ref l) (upd H l (.lst ys))) := by
  subst h
  exact call_list_of
theorem pg_tupK {es : List Expr} {k : Nat} {t : TGs} {n : Nat} {pos : Pos} (h : X.K = K) (hc : X.calm = true) (hg : PGs X es t)
    (hn : (assignEach es X.env).length = n) (hst : (assignEach es X.env).findIdx? (·.1) = none) : PG X (.Tuple es k pos) (gTup K n t) := by
  subst h
  exact pg_tup hc hg hn hst
end
end K34
set_option autoImplicit true
set_option Elab.async false
set_option linter.all false
set_option maxRecDepth 100000
/-! The text by places, the facts of the top, its Hook. -/
namespace K34
open PySem PySem.Spec PyProof.Rows L2
def topS (i : Nat) : Stmt := PySem.Challenge.pw_stitchroom_k34_whole_held.main.body.getD i (.Pass ⟨0, 0, 0, 0⟩)
abbrev s_names_of : Stmt := topS 7
abbrev s_drawers : Stmt := topS 8
abbrev s_held : Stmt := topS 9
abbrev s_loosened : Stmt := topS 10
abbrev s_fallen : Stmt := topS 11
abbrev s_undone : Stmt := topS 12
abbrev s_way_up : Stmt := topS 13
abbrev s_Stitch_takes : Stmt := inClass (topS 16) 0
abbrev s_Stitch_ties : Stmt := inClass (topS 16) 2
abbrev s_Stitch_ends : Stmt := inClass (topS 16) 3
abbrev s_Plain_init : Stmt := inClass (topS 17) 0
abbrev s_Plain_ties : Stmt := inClass (topS 17) 1
abbrev s_Slip_ties : Stmt := inClass (topS 18) 0
abbrev s_Over_takes : Stmt := inClass (topS 19) 0
abbrev s_Over_ties : Stmt := inClass (topS 19) 1
abbrev s_Lean_init : Stmt := inClass (topS 20) 0
abbrev s_Lean_takes : Stmt := inClass (topS 20) 1
abbrev s_Lean_ties : Stmt := inClass (topS 20) 2
abbrev s_Grow_init : Stmt := inClass (topS 21) 0
abbrev s_Grow_ties : Stmt := inClass (topS 21) 1
abbrev s_Cross_init : Stmt := inClass (topS 22) 0
abbrev s_Cross_takes : Stmt := inClass (topS 22) 1
abbrev s_Cross_ties : Stmt := inClass (topS 22) 2
abbrev s_Off_ends : Stmt := inClass (topS 23) 0
abbrev s_Keep_init : Stmt := inClass (topS 24) 0
abbrev s_Keep_ends : Stmt := inClass (topS 24) 1
abbrev s_Fetch_init : Stmt := inClass (topS 25) 0
abbrev s_Fetch_takes : Stmt := inClass (topS 25) 1
abbrev s_Fetch_ties : Stmt := inClass (topS 25) 2
abbrev s_short_one : Stmt := topS 28
abbrev s_long_one : Stmt := topS 29
abbrev s_stitch : Stmt := topS 30
abbrev s_fetched : Stmt := topS 33
abbrev s_put_away : Stmt := topS 34
abbrev s_many_new : Stmt := topS 35
abbrev s_Needles_init : Stmt := inClass (topS 36) 0
abbrev s_Needles_facing : Stmt := inClass (topS 36) 1
abbrev s_Needles_fit : Stmt := inClass (topS 36) 2
abbrev s_Needles_named : Stmt := inClass (topS 36) 3
abbrev s_Needles_seen : Stmt := inClass (topS 36) 4
abbrev s_Needles_exchange : Stmt := inClass (topS 36) 5
abbrev s_Needles_work : Stmt := inClass (topS 36) 6
abbrev s_Needles_web : Stmt := inClass (topS 36) 7
abbrev s_law_cell_at : Stmt := topS 38
abbrev s_law_whole : Stmt := topS 39
abbrev s_law_name : Stmt := topS 40
abbrev s_law_listed : Stmt := topS 41
abbrev s_law_takes : Stmt := topS 42
abbrev s_law_gives : Stmt := topS 43
abbrev s_law_mark : Stmt := topS 44
abbrev s_law_row_end : Stmt := topS 45
abbrev s_law_add : Stmt := topS 46
abbrev s_law_rows : Stmt := topS 47
abbrev s_law_above : Stmt := topS 48
abbrev s_law_ends : Stmt := topS 49
abbrev s_law_ties_hold : Stmt := topS 50
abbrev s_law_falls : Stmt := topS 51
abbrev s_law_walked : Stmt := topS 52
abbrev s_law_asked_so : Stmt := topS 53
abbrev s_law_wide : Stmt := topS 54
abbrev s_law : Stmt := topS 55
/-- a def where it stands: its name, its full name, its statement, its defaults -/
def dD (at_ : Str × Option Str) (name qual : Str) (s : Stmt) (dfl : List He.Dv) : He.DefD := ⟨at_, name, qual, defArgs s, defBody s, defScope s, dfl, []⟩
def d_names_of : He.DefD := dD ("names_of", none) "names_of" "names_of" s_names_of []
def d_drawers : He.DefD := dD ("drawers", none) "drawers" "drawers" s_drawers []
def d_held : He.DefD := dD ("held", none) "held" "held" s_held []
def d_loosened : He.DefD := dD ("loosened", none) "loosened" "loosened" s_loosened []
def d_fallen : He.DefD := dD ("fallen", none) "fallen" "fallen" s_fallen []
def d_undone : He.DefD := dD ("undone", none) "undone" "undone" s_undone []
def d_way_up : He.DefD := dD ("way_up", none) "way_up" "way_up" s_way_up []
def d_Plain_init : He.DefD := dD ("Plain", some "__init__") "__init__" "Plain.__init__" s_Plain_init []
def d_Plain_ties : He.DefD := dD ("Plain", some "ties") "ties" "Plain.ties" s_Plain_ties []
def d_Slip_ties : He.DefD := dD ("Slip", some "ties") "ties" "Slip.ties" s_Slip_ties []
def d_Over_takes : He.DefD := dD ("Over", some "takes") "takes" "Over.takes" s_Over_takes []
def d_Over_ties : He.DefD := dD ("Over", some "ties") "ties" "Over.ties" s_Over_ties []
def d_Lean_init : He.DefD := dD ("Lean", some "__init__") "__init__" "Lean.__init__" s_Lean_init []
def d_Lean_takes : He.DefD := dD ("Lean", some "takes") "takes" "Lean.takes" s_Lean_takes []
def d_Lean_ties : He.DefD := dD ("Lean", some "ties") "ties" "Lean.ties" s_Lean_ties []
def d_Grow_init : He.DefD := dD ("Grow", some "__init__") "__init__" "Grow.__init__" s_Grow_init []
def d_Grow_ties : He.DefD := dD ("Grow", some "ties") "ties" "Grow.ties" s_Grow_ties []
def d_Cross_init : He.DefD := dD ("Cross", some "__init__") "__init__" "Cross.__init__" s_Cross_init []
def d_Cross_takes : He.DefD := dD ("Cross", some "takes") "takes" "Cross.takes" s_Cross_takes []
def d_Cross_ties : He.DefD := dD ("Cross", some "ties") "ties" "Cross.ties" s_Cross_ties []
def d_Off_ends : He.DefD := dD ("Off", some "ends") "ends" "Off.ends" s_Off_ends []
def d_Keep_init : He.DefD := dD ("Keep", some "__init__") "__init__" "Keep.__init__" s_Keep_init []
def d_Keep_ends : He.DefD := dD ("Keep", some "ends") "ends" "Keep.ends" s_Keep_ends []
def d_Fetch_init : He.DefD := dD ("Fetch", some "__init__") "__init__" "Fetch.__init__" s_Fetch_init []
def d_Fetch_takes : He.DefD := dD ("Fetch", some "takes") "takes" "Fetch.takes" s_Fetch_takes []
def d_Fetch_ties : He.DefD := dD ("Fetch", some "ties") "ties" "Fetch.ties" s_Fetch_ties []
def d_short_one : He.DefD := dD ("short_one", none) "short_one" "short_one" s_short_one []
def d_long_one : He.DefD := dD ("long_one", none) "long_one" "long_one" s_long_one []
def d_stitch : He.DefD := dD ("stitch", none) "stitch" "stitch" s_stitch []
def d_fetched : He.DefD := dD ("fetched", none) "fetched" "fetched" s_fetched []
def d_put_away : He.DefD := dD ("put_away", none) "put_away" "put_away" s_put_away []
def d_many_new : He.DefD := dD ("many_new", none) "many_new" "many_new" s_many_new []
def d_Needles_init : He.DefD := dD ("Needles", some "__init__") "__init__" "Needles.__init__" s_Needles_init [.non, .non]
def d_Needles_facing : He.DefD := dD ("Needles", some "facing") "facing" "Needles.facing" s_Needles_facing []
def d_Needles_fit : He.DefD := dD ("Needles", some "fit") "fit" "Needles.fit" s_Needles_fit []
def d_Needles_named : He.DefD := dD ("Needles", some "named") "named" "Needles.named" s_Needles_named []
def d_Needles_seen : He.DefD := dD ("Needles", some "seen") "seen" "Needles.seen" s_Needles_seen []
def d_Needles_exchange : He.DefD := dD ("Needles", some "exchange") "exchange" "Needles.exchange" s_Needles_exchange []
def d_Needles_work : He.DefD := dD ("Needles", some "work") "work" "Needles.work" s_Needles_work [.bl false]
def d_Needles_web : He.DefD := dD ("Needles", some "web") "web" "Needles.web" s_Needles_web []
def d_law_cell_at : He.DefD := dD ("_law_cell_at", none) "_law_cell_at" "_law_cell_at" s_law_cell_at []
def d_law_whole : He.DefD := dD ("_law_whole", none) "_law_whole" "_law_whole" s_law_whole []
def d_law_name : He.DefD := dD ("_law_name", none) "_law_name" "_law_name" s_law_name []
def d_law_listed : He.DefD := dD ("_law_listed", none) "_law_listed" "_law_listed" s_law_listed []
def d_law_takes : He.DefD := dD ("_law_takes", none) "_law_takes" "_law_takes" s_law_takes []
def d_law_gives : He.DefD := dD ("_law_gives", none) "_law_gives" "_law_gives" s_law_gives []
def d_law_mark : He.DefD := dD ("_law_mark", none) "_law_mark" "_law_mark" s_law_mark []
def d_law_row_end : He.DefD := dD ("_law_row_end", none) "_law_row_end" "_law_row_end" s_law_row_end []
def d_law_add : He.DefD := dD ("_law_add", none) "_law_add" "_law_add" s_law_add []
def d_law_rows : He.DefD := dD ("_law_rows", none) "_law_rows" "_law_rows" s_law_rows []
def d_law_above : He.DefD := dD ("_law_above", none) "_law_above" "_law_above" s_law_above []
def d_law_ends : He.DefD := dD ("_law_ends", none) "_law_ends" "_law_ends" s_law_ends []
def d_law_ties_hold : He.DefD := dD ("_law_ties_hold", none) "_law_ties_hold" "_law_ties_hold" s_law_ties_hold []
def d_law_falls : He.DefD := dD ("_law_falls", none) "_law_falls" "_law_falls" s_law_falls []
def d_law_walked : He.DefD := dD ("_law_walked", none) "_law_walked" "_law_walked" s_law_walked []
def d_law_asked_so : He.DefD := dD ("_law_asked_so", none) "_law_asked_so" "_law_asked_so" s_law_asked_so []
def d_law_wide : He.DefD := dD ("_law_wide", none) "_law_wide" "_law_wide" s_law_wide []
def d_law : He.DefD := dD ("law", none) "law" "law" s_law []
def d_Plain_takes : He.DefD := dD ("Plain", some "takes") "takes" "Stitch.takes" s_Stitch_takes []
def d_Plain_ends : He.DefD := dD ("Plain", some "ends") "ends" "Stitch.ends" s_Stitch_ends []
def d_Slip_takes : He.DefD := dD ("Slip", some "takes") "takes" "Stitch.takes" s_Stitch_takes []
def d_Slip_ends : He.DefD := dD ("Slip", some "ends") "ends" "Stitch.ends" s_Stitch_ends []
def d_Over_ends : He.DefD := dD ("Over", some "ends") "ends" "Stitch.ends" s_Stitch_ends []
def d_Lean_ends : He.DefD := dD ("Lean", some "ends") "ends" "Stitch.ends" s_Stitch_ends []
def d_Grow_takes : He.DefD := dD ("Grow", some "takes") "takes" "Stitch.takes" s_Stitch_takes []
def d_Grow_ends : He.DefD := dD ("Grow", some "ends") "ends" "Stitch.ends" s_Stitch_ends []
def d_Cross_ends : He.DefD := dD ("Cross", some "ends") "ends" "Stitch.ends" s_Stitch_ends []
def d_Off_takes : He.DefD := dD ("Off", some "takes") "takes" "Stitch.takes" s_Stitch_takes []
def d_Off_ties : He.DefD := dD ("Off", some "ties") "ties" "Stitch.ties" s_Stitch_ties []
def d_Keep_takes : He.DefD := dD ("Keep", some "takes") "takes" "Stitch.takes" s_Stitch_takes []
def d_Keep_ties : He.DefD := dD ("Keep", some "ties") "ties" "Stitch.ties" s_Stitch_ties []
def d_Fetch_ends : He.DefD := dD ("Fetch", some "ends") "ends" "Stitch.ends" s_Stitch_ends []
def fn0 : List He.DefD := [d_names_of, d_drawers, d_held, d_loosened, d_fallen, d_undone, d_way_up, d_Plain_init, d_Plain_ties, d_Slip_ties, d_Over_takes, d_Over_ties, d_Lean_init, d_Lean_takes, d_Lean_ties, d_Grow_init, d_Grow_ties, d_Cross_init, d_Cross_takes, d_Cross_ties]
def fn1 : List He.DefD := [d_Off_ends, d_Keep_init, d_Keep_ends, d_Fetch_init, d_Fetch_takes, d_Fetch_ties, d_short_one, d_long_one, d_stitch, d_fetched, d_put_away, d_many_new, d_Needles_init, d_Needles_facing, d_Needles_fit, d_Needles_named, d_Needles_seen, d_Needles_exchange, d_Needles_work, d_Needles_web]
def fn2 : List He.DefD := [d_law_cell_at, d_law_whole, d_law_name, d_law_listed, d_law_takes, d_law_gives, d_law_mark, d_law_row_end, d_law_add, d_law_rows, d_law_above, d_law_ends, d_law_ties_hold, d_law_falls, d_law_walked, d_law_asked_so, d_law_wide, d_law, d_Plain_takes, d_Plain_ends]
def fn3 : List He.DefD := [d_Slip_takes, d_Slip_ends, d_Over_ends, d_Lean_ends, d_Grow_takes, d_Grow_ends, d_Cross_ends, d_Off_takes, d_Off_ties, d_Keep_takes, d_Keep_ties, d_Fetch_ends]
def fnAll : List He.DefD := fn0 ++ (fn1 ++ (fn2 ++ (fn3)))
def fa0 : List He.Fa := [.glo "names_of", .glo "drawers", .glo "held", .glo "loosened", .glo "fallen", .glo "undone", .glo "way_up", .glo "short_one", .glo "long_one", .glo "stitch", .glo "fetched", .glo "put_away", .glo "many_new", .glo "_law_cell_at", .glo "_law_whole", .glo "_law_name", .glo "_law_listed", .glo "_law_takes", .glo "_law_gives", .glo "_law_mark", .glo "_law_row_end", .glo "_law_add", .glo "_law_rows", .glo "_law_above", .glo "_law_ends", .glo "_law_ties_hold", .glo "_law_falls", .glo "_law_walked", .glo "_law_asked_so", .glo "_law_wide"]
def fa1 : List He.Fa := [.glo "law", .glo "Plain", .glo "Slip", .glo "Over", .glo "Lean", .glo "Grow", .glo "Cross", .glo "Off", .glo "Keep", .glo "Fetch", .glo "Needles", .free "range", .free "len", .free "reversed", .free "list", .free "tuple", .free "sum", .free "all", .free "sorted", .free "isinstance", .free "int", .free "str", .free "min", .free "abs", .free "bool", .str "KEEPERS_marks" "wxyz", .str "KEEPERS_needles" "wxyz", .cls "Plain", .noat "Plain" "side", .cls "Slip"]
def fa2 : List He.Fa := [.cls "Over", .cls "Lean", .noat "Lean" "many", .noat "Lean" "way", .noat "Lean" "side", .cls "Grow", .noat "Grow" "many", .noat "Grow" "side", .cls "Cross", .noat "Cross" "first", .noat "Cross" "second", .noat "Cross" "way", .noat "Cross" "side", .cls "Off", .cls "Keep", .noat "Keep" "keeper", .cls "Fetch", .noat "Fetch" "keeper", .cls "Needles", .noat "Needles" "flat", .noat "Needles" "back", .noat "Needles" "right", .noat "Needles" "held", .noat "Needles" "gone", .noat "Needles" "made", .noat "Needles" "left", .meth "Plain" "takes", .meth "Plain" "ties", .meth "Plain" "ends", .meth "Slip" "takes"]
def fa3 : List He.Fa := [.meth "Slip" "ties", .meth "Slip" "ends", .meth "Over" "takes", .meth "Over" "ties", .meth "Over" "ends", .meth "Lean" "takes", .meth "Lean" "ties", .meth "Lean" "ends", .meth "Grow" "takes", .meth "Grow" "ties", .meth "Grow" "ends", .meth "Cross" "takes", .meth "Cross" "ties", .meth "Cross" "ends", .meth "Off" "takes", .meth "Off" "ties", .meth "Off" "ends", .meth "Keep" "takes", .meth "Keep" "ties", .meth "Keep" "ends", .meth "Fetch" "takes", .meth "Fetch" "ties", .meth "Fetch" "ends", .meth "Needles" "facing", .meth "Needles" "fit", .meth "Needles" "named", .meth "Needles" "seen", .meth "Needles" "exchange", .meth "Needles" "work", .meth "Needles" "web"]
def fa4 : List He.Fa := [.mkr "Plain", .mkr "Lean", .mkr "Grow", .mkr "Cross", .mkr "Keep", .mkr "Fetch", .mkr "Needles"]
def faAll : List He.Fa := fa0 ++ (fa1 ++ (fa2 ++ (fa3 ++ (fa4))))
/-- a class that is made by object's own init -/
def bareB (K : PySem.W.Frag) (x : Str) : Bool := PySem.W.makesIn K (He.ga K x) && (He.eqO (PySem.W.findIn K (.ref (He.ga K x)) "__init__") (some (some (.builtin "object.__init__"))) && PySem.W.keepIn K (.ref (He.ga K x)))
def exB (K : PySem.W.Frag) : Bool := bareB K "Slip" && (bareB K "Over" && bareB K "Off")
/-- what the Hook tells: the facts by names, the three bare classes -/
structure Says (K : PySem.W.Frag) : Prop where
  d : He.SaysD faAll fnAll K
  ex : exB K = true
abbrev AlK : Type := He.AlD × Bool
def obsK (n : Nat) (g : Addr → Option Obj) : AlK := (He.obsD faAll fnAll (He.frG g (He.asD g n)), exB (He.frG g (He.asD g n)))
def valK : AlK := (He.valD fnAll, true)
def hookK (n : Nat) : PySem.W.Hook where
  α := AlK
  obs := fun s => obsK n s.heap.get?
  val := fun _ => valK
  says := fun _ h => ∃ K : PySem.W.Frag, K.In h ∧ Says K
  of := fun _ _ e => ⟨_, He.frG_in, ⟨congrArg (fun z : AlK => z.1) e, congrArg (fun z : AlK => z.2) e⟩⟩
  keeps := fun _ _ _ ⟨K, hK, c⟩ k => ⟨K, PySem.W.Frag.In.keeps hK k, c⟩
theorem obsK_eq {n : Nat} {g : Addr → Option Obj} {s : Shared} (h : ∀ a, g a = s.heap.get? a) : obsK n g = (hookK n).obs s := by
  have e : g = s.heap.get? := funext h
  rw [e]
  rfl
abbrev RR : PySem.W.OpenRow := PySem.W.OpenLaw.row PySem.Challenge.rw_stitchroom_k34_whole_held
abbrev hk : PySem.W.Hook := hookK 5
def ob (s : PySem.W.SharedT) : AlK := obsK 5 (HandSHeadRun.getT s)
theorem ob_eq (s : PySem.W.SharedT) : ob s = hk.obs s.abs := obsK_eq (HandSHeadRun.getT_eq s)
def nm0 : List Str := ["_wall", "__name__", "StitchError", "NoStitch", "Miscount", "NotLying", "names_of", "drawers", "held", "loosened", "fallen", "undone", "way_up", "letter_of", "Stitch", "Plain", "Slip", "Over", "Lean", "Grow", "Cross", "Off", "Keep", "Fetch", "KEEPERS_marks", "short_one", "long_one", "stitch", "KEEPERS_needles", "fetched"]
def nm1 : List Str := ["put_away", "many_new", "Needles", "_law_cell_at", "_law_whole", "_law_name", "_law_listed", "_law_takes", "_law_gives", "_law_mark", "_law_row_end", "_law_add", "_law_rows", "_law_above", "_law_ends", "_law_ties_hold", "_law_falls", "_law_walked", "_law_asked_so", "_law_wide"]
def nmAll : List Str := nm0 ++ (nm1)
end K34
set_option autoImplicit true
set_option Elab.async false
set_option linter.all false
set_option maxRecDepth 100000
set_option maxHeartbeats 0
namespace K34
open PySem PySem.Spec PyProof.Rows L2
theorem run (w : World) : HandSHeadRun.RunEq RR (PySem.W.view RR.prog [55]) hk ob 7000 nmAll w := by
  intro os
  kernel_rfl
end K34
set_option autoImplicit true
set_option Elab.async false
set_option linter.all false
set_option maxRecDepth 100000
set_option maxHeartbeats 4000000
/-! The facts of the top as one structure; calls by promise. -/
namespace K34
open PySem PySem.Spec PyProof.Rows L2
abbrev ga := He.ga
/-- a def as the text has it, standing at the place that its name leads to -/
abbrev DuP (K : PySem.W.Frag) (d : He.DefD) : Prop := ∃ fd, FunD K d.name d.qual d.params d.body d.scope (d.dvs K) (d.kws K) (He.fAd K d.at_) fd
structure Zt (K : PySem.W.Frag) (mg : Str → Option Value) : Prop where
  gl_names_of : mg "names_of" = some (.ref (He.ga K "names_of"))
  gl_drawers : mg "drawers" = some (.ref (He.ga K "drawers"))
  gl_held : mg "held" = some (.ref (He.ga K "held"))
  gl_loosened : mg "loosened" = some (.ref (He.ga K "loosened"))
  gl_fallen : mg "fallen" = some (.ref (He.ga K "fallen"))
  gl_undone : mg "undone" = some (.ref (He.ga K "undone"))
  gl_way_up : mg "way_up" = some (.ref (He.ga K "way_up"))
  gl_short_one : mg "short_one" = some (.ref (He.ga K "short_one"))
  gl_long_one : mg "long_one" = some (.ref (He.ga K "long_one"))
  gl_stitch : mg "stitch" = some (.ref (He.ga K "stitch"))
  gl_fetched : mg "fetched" = some (.ref (He.ga K "fetched"))
  gl_put_away : mg "put_away" = some (.ref (He.ga K "put_away"))
  gl_many_new : mg "many_new" = some (.ref (He.ga K "many_new"))
  gl_law_cell_at : mg "_law_cell_at" = some (.ref (He.ga K "_law_cell_at"))
  gl_law_whole : mg "_law_whole" = some (.ref (He.ga K "_law_whole"))
  gl_law_name : mg "_law_name" = some (.ref (He.ga K "_law_name"))
  gl_law_listed : mg "_law_listed" = some (.ref (He.ga K "_law_listed"))
  gl_law_takes : mg "_law_takes" = some (.ref (He.ga K "_law_takes"))
  gl_law_gives : mg "_law_gives" = some (.ref (He.ga K "_law_gives"))
  gl_law_mark : mg "_law_mark" = some (.ref (He.ga K "_law_mark"))
  gl_law_row_end : mg "_law_row_end" = some (.ref (He.ga K "_law_row_end"))
  gl_law_add : mg "_law_add" = some (.ref (He.ga K "_law_add"))
  gl_law_rows : mg "_law_rows" = some (.ref (He.ga K "_law_rows"))
  gl_law_above : mg "_law_above" = some (.ref (He.ga K "_law_above"))
  gl_law_ends : mg "_law_ends" = some (.ref (He.ga K "_law_ends"))
  gl_law_ties_hold : mg "_law_ties_hold" = some (.ref (He.ga K "_law_ties_hold"))
  gl_law_falls : mg "_law_falls" = some (.ref (He.ga K "_law_falls"))
  gl_law_walked : mg "_law_walked" = some (.ref (He.ga K "_law_walked"))
  gl_law_asked_so : mg "_law_asked_so" = some (.ref (He.ga K "_law_asked_so"))
  gl_law_wide : mg "_law_wide" = some (.ref (He.ga K "_law_wide"))
  gl_law : mg "law" = some (.ref (He.ga K "law"))
  gl_Plain : mg "Plain" = some (.ref (He.ga K "Plain"))
  gl_Slip : mg "Slip" = some (.ref (He.ga K "Slip"))
  gl_Over : mg "Over" = some (.ref (He.ga K "Over"))
  gl_Lean : mg "Lean" = some (.ref (He.ga K "Lean"))
  gl_Grow : mg "Grow" = some (.ref (He.ga K "Grow"))
  gl_Cross : mg "Cross" = some (.ref (He.ga K "Cross"))
  gl_Off : mg "Off" = some (.ref (He.ga K "Off"))
  gl_Keep : mg "Keep" = some (.ref (He.ga K "Keep"))
  gl_Fetch : mg "Fetch" = some (.ref (He.ga K "Fetch"))
  gl_Needles : mg "Needles" = some (.ref (He.ga K "Needles"))
  fr_range : mg "range" = none
  fr_len : mg "len" = none
  fr_reversed : mg "reversed" = none
  fr_list : mg "list" = none
  fr_tuple : mg "tuple" = none
  fr_sum : mg "sum" = none
  fr_all : mg "all" = none
  fr_sorted : mg "sorted" = none
  fr_isinstance : mg "isinstance" = none
  fr_int : mg "int" = none
  fr_str : mg "str" = none
  fr_min : mg "min" = none
  fr_abs : mg "abs" = none
  fr_bool : mg "bool" = none
  st_KEEPERS_marks : ∃ t, mg "KEEPERS_marks" = some (.str "wxyz" t)
  st_KEEPERS_needles : ∃ t, mg "KEEPERS_needles" = some (.str "wxyz" t)
  cl_Plain : Cls K (He.ga K "Plain")
  na_Plain_side : NoAttr K (He.ga K "Plain") "side"
  cl_Slip : Cls K (He.ga K "Slip")
  cl_Over : Cls K (He.ga K "Over")
  cl_Lean : Cls K (He.ga K "Lean")
  na_Lean_many : NoAttr K (He.ga K "Lean") "many"
  na_Lean_way : NoAttr K (He.ga K "Lean") "way"
  na_Lean_side : NoAttr K (He.ga K "Lean") "side"
  cl_Grow : Cls K (He.ga K "Grow")
  na_Grow_many : NoAttr K (He.ga K "Grow") "many"
  na_Grow_side : NoAttr K (He.ga K "Grow") "side"
  cl_Cross : Cls K (He.ga K "Cross")
  na_Cross_first : NoAttr K (He.ga K "Cross") "first"
  na_Cross_second : NoAttr K (He.ga K "Cross") "second"
  na_Cross_way : NoAttr K (He.ga K "Cross") "way"
  na_Cross_side : NoAttr K (He.ga K "Cross") "side"
  cl_Off : Cls K (He.ga K "Off")
  cl_Keep : Cls K (He.ga K "Keep")
  na_Keep_keeper : NoAttr K (He.ga K "Keep") "keeper"
  cl_Fetch : Cls K (He.ga K "Fetch")
  na_Fetch_keeper : NoAttr K (He.ga K "Fetch") "keeper"
  cl_Needles : Cls K (He.ga K "Needles")
  na_Needles_flat : NoAttr K (He.ga K "Needles") "flat"
  na_Needles_back : NoAttr K (He.ga K "Needles") "back"
  na_Needles_right : NoAttr K (He.ga K "Needles") "right"
  na_Needles_held : NoAttr K (He.ga K "Needles") "held"
  na_Needles_gone : NoAttr K (He.ga K "Needles") "gone"
  na_Needles_made : NoAttr K (He.ga K "Needles") "made"
  na_Needles_left : NoAttr K (He.ga K "Needles") "left"
  me_Plain_takes : Meth K (He.ga K "Plain") "takes" (He.ma K (He.ga K "Plain") "takes")
  me_Plain_ties : Meth K (He.ga K "Plain") "ties" (He.ma K (He.ga K "Plain") "ties")
  me_Plain_ends : Meth K (He.ga K "Plain") "ends" (He.ma K (He.ga K "Plain") "ends")
  me_Slip_takes : Meth K (He.ga K "Slip") "takes" (He.ma K (He.ga K "Slip") "takes")
  me_Slip_ties : Meth K (He.ga K "Slip") "ties" (He.ma K (He.ga K "Slip") "ties")
  me_Slip_ends : Meth K (He.ga K "Slip") "ends" (He.ma K (He.ga K "Slip") "ends")
  me_Over_takes : Meth K (He.ga K "Over") "takes" (He.ma K (He.ga K "Over") "takes")
  me_Over_ties : Meth K (He.ga K "Over") "ties" (He.ma K (He.ga K "Over") "ties")
  me_Over_ends : Meth K (He.ga K "Over") "ends" (He.ma K (He.ga K "Over") "ends")
  me_Lean_takes : Meth K (He.ga K "Lean") "takes" (He.ma K (He.ga K "Lean") "takes")
  me_Lean_ties : Meth K (He.ga K "Lean") "ties" (He.ma K (He.ga K "Lean") "ties")
  me_Lean_ends : Meth K (He.ga K "Lean") "ends" (He.ma K (He.ga K "Lean") "ends")
  me_Grow_takes : Meth K (He.ga K "Grow") "takes" (He.ma K (He.ga K "Grow") "takes")
  me_Grow_ties : Meth K (He.ga K "Grow") "ties" (He.ma K (He.ga K "Grow") "ties")
  me_Grow_ends : Meth K (He.ga K "Grow") "ends" (He.ma K (He.ga K "Grow") "ends")
  me_Cross_takes : Meth K (He.ga K "Cross") "takes" (He.ma K (He.ga K "Cross") "takes")
  me_Cross_ties : Meth K (He.ga K "Cross") "ties" (He.ma K (He.ga K "Cross") "ties")
  me_Cross_ends : Meth K (He.ga K "Cross") "ends" (He.ma K (He.ga K "Cross") "ends")
  me_Off_takes : Meth K (He.ga K "Off") "takes" (He.ma K (He.ga K "Off") "takes")
  me_Off_ties : Meth K (He.ga K "Off") "ties" (He.ma K (He.ga K "Off") "ties")
  me_Off_ends : Meth K (He.ga K "Off") "ends" (He.ma K (He.ga K "Off") "ends")
  me_Keep_takes : Meth K (He.ga K "Keep") "takes" (He.ma K (He.ga K "Keep") "takes")
  me_Keep_ties : Meth K (He.ga K "Keep") "ties" (He.ma K (He.ga K "Keep") "ties")
  me_Keep_ends : Meth K (He.ga K "Keep") "ends" (He.ma K (He.ga K "Keep") "ends")
  me_Fetch_takes : Meth K (He.ga K "Fetch") "takes" (He.ma K (He.ga K "Fetch") "takes")
  me_Fetch_ties : Meth K (He.ga K "Fetch") "ties" (He.ma K (He.ga K "Fetch") "ties")
  me_Fetch_ends : Meth K (He.ga K "Fetch") "ends" (He.ma K (He.ga K "Fetch") "ends")
  me_Needles_facing : Meth K (He.ga K "Needles") "facing" (He.ma K (He.ga K "Needles") "facing")
  me_Needles_fit : Meth K (He.ga K "Needles") "fit" (He.ma K (He.ga K "Needles") "fit")
  me_Needles_named : Meth K (He.ga K "Needles") "named" (He.ma K (He.ga K "Needles") "named")
  me_Needles_seen : Meth K (He.ga K "Needles") "seen" (He.ma K (He.ga K "Needles") "seen")
  me_Needles_exchange : Meth K (He.ga K "Needles") "exchange" (He.ma K (He.ga K "Needles") "exchange")
  me_Needles_work : Meth K (He.ga K "Needles") "work" (He.ma K (He.ga K "Needles") "work")
  me_Needles_web : Meth K (He.ga K "Needles") "web" (He.ma K (He.ga K "Needles") "web")
  mk_Plain : Mk K (He.ga K "Plain") (He.ma K (He.ga K "Plain") "__init__")
  mk_Lean : Mk K (He.ga K "Lean") (He.ma K (He.ga K "Lean") "__init__")
  mk_Grow : Mk K (He.ga K "Grow") (He.ma K (He.ga K "Grow") "__init__")
  mk_Cross : Mk K (He.ga K "Cross") (He.ma K (He.ga K "Cross") "__init__")
  mk_Keep : Mk K (He.ga K "Keep") (He.ma K (He.ga K "Keep") "__init__")
  mk_Fetch : Mk K (He.ga K "Fetch") (He.ma K (He.ga K "Fetch") "__init__")
  mk_Needles : Mk K (He.ga K "Needles") (He.ma K (He.ga K "Needles") "__init__")
  ba_Slip : Bare K (He.ga K "Slip")
  ba_Over : Bare K (He.ga K "Over")
  ba_Off : Bare K (He.ga K "Off")
  du_names_of : DuP K d_names_of
  du_drawers : DuP K d_drawers
  du_held : DuP K d_held
  du_loosened : DuP K d_loosened
  du_fallen : DuP K d_fallen
  du_undone : DuP K d_undone
  du_way_up : DuP K d_way_up
  du_Plain_init : DuP K d_Plain_init
  du_Plain_ties : DuP K d_Plain_ties
  du_Slip_ties : DuP K d_Slip_ties
  du_Over_takes : DuP K d_Over_takes
  du_Over_ties : DuP K d_Over_ties
  du_Lean_init : DuP K d_Lean_init
  du_Lean_takes : DuP K d_Lean_takes
  du_Lean_ties : DuP K d_Lean_ties
  du_Grow_init : DuP K d_Grow_init
  du_Grow_ties : DuP K d_Grow_ties
  du_Cross_init : DuP K d_Cross_init
  du_Cross_takes : DuP K d_Cross_takes
  du_Cross_ties : DuP K d_Cross_ties
  du_Off_ends : DuP K d_Off_ends
  du_Keep_init : DuP K d_Keep_init
  du_Keep_ends : DuP K d_Keep_ends
  du_Fetch_init : DuP K d_Fetch_init
  du_Fetch_takes : DuP K d_Fetch_takes
  du_Fetch_ties : DuP K d_Fetch_ties
  du_short_one : DuP K d_short_one
  du_long_one : DuP K d_long_one
  du_stitch : DuP K d_stitch
  du_fetched : DuP K d_fetched
  du_put_away : DuP K d_put_away
  du_many_new : DuP K d_many_new
  du_Needles_init : DuP K d_Needles_init
  du_Needles_facing : DuP K d_Needles_facing
  du_Needles_fit : DuP K d_Needles_fit
  du_Needles_named : DuP K d_Needles_named
  du_Needles_seen : DuP K d_Needles_seen
  du_Needles_exchange : DuP K d_Needles_exchange
  du_Needles_work : DuP K d_Needles_work
  du_Needles_web : DuP K d_Needles_web
  du_law_cell_at : DuP K d_law_cell_at
  du_law_whole : DuP K d_law_whole
  du_law_name : DuP K d_law_name
  du_law_listed : DuP K d_law_listed
  du_law_takes : DuP K d_law_takes
  du_law_gives : DuP K d_law_gives
  du_law_mark : DuP K d_law_mark
  du_law_row_end : DuP K d_law_row_end
  du_law_add : DuP K d_law_add
  du_law_rows : DuP K d_law_rows
  du_law_above : DuP K d_law_above
  du_law_ends : DuP K d_law_ends
  du_law_ties_hold : DuP K d_law_ties_hold
  du_law_falls : DuP K d_law_falls
  du_law_walked : DuP K d_law_walked
  du_law_asked_so : DuP K d_law_asked_so
  du_law_wide : DuP K d_law_wide
  du_law : DuP K d_law
  du_Plain_takes : DuP K d_Plain_takes
  du_Plain_ends : DuP K d_Plain_ends
  du_Slip_takes : DuP K d_Slip_takes
  du_Slip_ends : DuP K d_Slip_ends
  du_Over_ends : DuP K d_Over_ends
  du_Lean_ends : DuP K d_Lean_ends
  du_Grow_takes : DuP K d_Grow_takes
  du_Grow_ends : DuP K d_Grow_ends
  du_Cross_ends : DuP K d_Cross_ends
  du_Off_takes : DuP K d_Off_takes
  du_Off_ties : DuP K d_Off_ties
  du_Keep_takes : DuP K d_Keep_takes
  du_Keep_ties : DuP K d_Keep_ties
  du_Fetch_ends : DuP K d_Fetch_ends
theorem bare_ok {K : PySem.W.Frag} {x : Str} (h : bareB K x = true) : Bare K (He.ga K x) := by
  obtain ⟨h1, h2⟩ := He.ba h
  obtain ⟨h3, h4⟩ := He.ba h2
  exact ⟨h1, He.eqO_ok h3, h4⟩
theorem z_of {K : PySem.W.Frag} {mg : Str → Option Value} {h : Heap} (X : K.In h) (G : h.Ns mainGlobals mg) (c : Says K) : Zt K mg where
  gl_names_of := He.glo_ok X G (c.d.fact 0 (f := .glo "names_of") rfl)
  gl_drawers := He.glo_ok X G (c.d.fact 1 (f := .glo "drawers") rfl)
  gl_held := He.glo_ok X G (c.d.fact 2 (f := .glo "held") rfl)
  gl_loosened := He.glo_ok X G (c.d.fact 3 (f := .glo "loosened") rfl)
  gl_fallen := He.glo_ok X G (c.d.fact 4 (f := .glo "fallen") rfl)
  gl_undone := He.glo_ok X G (c.d.fact 5 (f := .glo "undone") rfl)
  gl_way_up := He.glo_ok X G (c.d.fact 6 (f := .glo "way_up") rfl)
  gl_short_one := He.glo_ok X G (c.d.fact 7 (f := .glo "short_one") rfl)
  gl_long_one := He.glo_ok X G (c.d.fact 8 (f := .glo "long_one") rfl)
  gl_stitch := He.glo_ok X G (c.d.fact 9 (f := .glo "stitch") rfl)
  gl_fetched := He.glo_ok X G (c.d.fact 10 (f := .glo "fetched") rfl)
  gl_put_away := He.glo_ok X G (c.d.fact 11 (f := .glo "put_away") rfl)
  gl_many_new := He.glo_ok X G (c.d.fact 12 (f := .glo "many_new") rfl)
  gl_law_cell_at := He.glo_ok X G (c.d.fact 13 (f := .glo "_law_cell_at") rfl)
  gl_law_whole := He.glo_ok X G (c.d.fact 14 (f := .glo "_law_whole") rfl)
  gl_law_name := He.glo_ok X G (c.d.fact 15 (f := .glo "_law_name") rfl)
  gl_law_listed := He.glo_ok X G (c.d.fact 16 (f := .glo "_law_listed") rfl)
  gl_law_takes := He.glo_ok X G (c.d.fact 17 (f := .glo "_law_takes") rfl)
  gl_law_gives := He.glo_ok X G (c.d.fact 18 (f := .glo "_law_gives") rfl)
  gl_law_mark := He.glo_ok X G (c.d.fact 19 (f := .glo "_law_mark") rfl)
  gl_law_row_end := He.glo_ok X G (c.d.fact 20 (f := .glo "_law_row_end") rfl)
  gl_law_add := He.glo_ok X G (c.d.fact 21 (f := .glo "_law_add") rfl)
  gl_law_rows := He.glo_ok X G (c.d.fact 22 (f := .glo "_law_rows") rfl)
  gl_law_above := He.glo_ok X G (c.d.fact 23 (f := .glo "_law_above") rfl)
  gl_law_ends := He.glo_ok X G (c.d.fact 24 (f := .glo "_law_ends") rfl)
  gl_law_ties_hold := He.glo_ok X G (c.d.fact 25 (f := .glo "_law_ties_hold") rfl)
  gl_law_falls := He.glo_ok X G (c.d.fact 26 (f := .glo "_law_falls") rfl)
  gl_law_walked := He.glo_ok X G (c.d.fact 27 (f := .glo "_law_walked") rfl)
  gl_law_asked_so := He.glo_ok X G (c.d.fact 28 (f := .glo "_law_asked_so") rfl)
  gl_law_wide := He.glo_ok X G (c.d.fact 29 (f := .glo "_law_wide") rfl)
  gl_law := He.glo_ok X G (c.d.fact 30 (f := .glo "law") rfl)
  gl_Plain := He.glo_ok X G (c.d.fact 31 (f := .glo "Plain") rfl)
  gl_Slip := He.glo_ok X G (c.d.fact 32 (f := .glo "Slip") rfl)
  gl_Over := He.glo_ok X G (c.d.fact 33 (f := .glo "Over") rfl)
  gl_Lean := He.glo_ok X G (c.d.fact 34 (f := .glo "Lean") rfl)
  gl_Grow := He.glo_ok X G (c.d.fact 35 (f := .glo "Grow") rfl)
  gl_Cross := He.glo_ok X G (c.d.fact 36 (f := .glo "Cross") rfl)
  gl_Off := He.glo_ok X G (c.d.fact 37 (f := .glo "Off") rfl)
  gl_Keep := He.glo_ok X G (c.d.fact 38 (f := .glo "Keep") rfl)
  gl_Fetch := He.glo_ok X G (c.d.fact 39 (f := .glo "Fetch") rfl)
  gl_Needles := He.glo_ok X G (c.d.fact 40 (f := .glo "Needles") rfl)
  fr_range := He.free_ok X G (c.d.fact 41 (f := .free "range") rfl)
  fr_len := He.free_ok X G (c.d.fact 42 (f := .free "len") rfl)
  fr_reversed := He.free_ok X G (c.d.fact 43 (f := .free "reversed") rfl)
  fr_list := He.free_ok X G (c.d.fact 44 (f := .free "list") rfl)
  fr_tuple := He.free_ok X G (c.d.fact 45 (f := .free "tuple") rfl)
  fr_sum := He.free_ok X G (c.d.fact 46 (f := .free "sum") rfl)
  fr_all := He.free_ok X G (c.d.fact 47 (f := .free "all") rfl)
  fr_sorted := He.free_ok X G (c.d.fact 48 (f := .free "sorted") rfl)
  fr_isinstance := He.free_ok X G (c.d.fact 49 (f := .free "isinstance") rfl)
  fr_int := He.free_ok X G (c.d.fact 50 (f := .free "int") rfl)
  fr_str := He.free_ok X G (c.d.fact 51 (f := .free "str") rfl)
  fr_min := He.free_ok X G (c.d.fact 52 (f := .free "min") rfl)
  fr_abs := He.free_ok X G (c.d.fact 53 (f := .free "abs") rfl)
  fr_bool := He.free_ok X G (c.d.fact 54 (f := .free "bool") rfl)
  st_KEEPERS_marks := He.str_ok X G (c.d.fact 55 (f := .str "KEEPERS_marks" "wxyz") rfl)
  st_KEEPERS_needles := He.str_ok X G (c.d.fact 56 (f := .str "KEEPERS_needles" "wxyz") rfl)
  cl_Plain := He.cls_ok (c.d.fact 57 (f := .cls "Plain") rfl)
  na_Plain_side := He.noat_ok (c.d.fact 58 (f := .noat "Plain" "side") rfl)
  cl_Slip := He.cls_ok (c.d.fact 59 (f := .cls "Slip") rfl)
  cl_Over := He.cls_ok (c.d.fact 60 (f := .cls "Over") rfl)
  cl_Lean := He.cls_ok (c.d.fact 61 (f := .cls "Lean") rfl)
  na_Lean_many := He.noat_ok (c.d.fact 62 (f := .noat "Lean" "many") rfl)
  na_Lean_way := He.noat_ok (c.d.fact 63 (f := .noat "Lean" "way") rfl)
  na_Lean_side := He.noat_ok (c.d.fact 64 (f := .noat "Lean" "side") rfl)
  cl_Grow := He.cls_ok (c.d.fact 65 (f := .cls "Grow") rfl)
  na_Grow_many := He.noat_ok (c.d.fact 66 (f := .noat "Grow" "many") rfl)
  na_Grow_side := He.noat_ok (c.d.fact 67 (f := .noat "Grow" "side") rfl)
  cl_Cross := He.cls_ok (c.d.fact 68 (f := .cls "Cross") rfl)
  na_Cross_first := He.noat_ok (c.d.fact 69 (f := .noat "Cross" "first") rfl)
  na_Cross_second := He.noat_ok (c.d.fact 70 (f := .noat "Cross" "second") rfl)
  na_Cross_way := He.noat_ok (c.d.fact 71 (f := .noat "Cross" "way") rfl)
  na_Cross_side := He.noat_ok (c.d.fact 72 (f := .noat "Cross" "side") rfl)
  cl_Off := He.cls_ok (c.d.fact 73 (f := .cls "Off") rfl)
  cl_Keep := He.cls_ok (c.d.fact 74 (f := .cls "Keep") rfl)
  na_Keep_keeper := He.noat_ok (c.d.fact 75 (f := .noat "Keep" "keeper") rfl)
  cl_Fetch := He.cls_ok (c.d.fact 76 (f := .cls "Fetch") rfl)
  na_Fetch_keeper := He.noat_ok (c.d.fact 77 (f := .noat "Fetch" "keeper") rfl)
  cl_Needles := He.cls_ok (c.d.fact 78 (f := .cls "Needles") rfl)
  na_Needles_flat := He.noat_ok (c.d.fact 79 (f := .noat "Needles" "flat") rfl)
  na_Needles_back := He.noat_ok (c.d.fact 80 (f := .noat "Needles" "back") rfl)
  na_Needles_right := He.noat_ok (c.d.fact 81 (f := .noat "Needles" "right") rfl)
  na_Needles_held := He.noat_ok (c.d.fact 82 (f := .noat "Needles" "held") rfl)
  na_Needles_gone := He.noat_ok (c.d.fact 83 (f := .noat "Needles" "gone") rfl)
  na_Needles_made := He.noat_ok (c.d.fact 84 (f := .noat "Needles" "made") rfl)
  na_Needles_left := He.noat_ok (c.d.fact 85 (f := .noat "Needles" "left") rfl)
  me_Plain_takes := He.meth_ok (c.d.fact 86 (f := .meth "Plain" "takes") rfl)
  me_Plain_ties := He.meth_ok (c.d.fact 87 (f := .meth "Plain" "ties") rfl)
  me_Plain_ends := He.meth_ok (c.d.fact 88 (f := .meth "Plain" "ends") rfl)
  me_Slip_takes := He.meth_ok (c.d.fact 89 (f := .meth "Slip" "takes") rfl)
  me_Slip_ties := He.meth_ok (c.d.fact 90 (f := .meth "Slip" "ties") rfl)
  me_Slip_ends := He.meth_ok (c.d.fact 91 (f := .meth "Slip" "ends") rfl)
  me_Over_takes := He.meth_ok (c.d.fact 92 (f := .meth "Over" "takes") rfl)
  me_Over_ties := He.meth_ok (c.d.fact 93 (f := .meth "Over" "ties") rfl)
  me_Over_ends := He.meth_ok (c.d.fact 94 (f := .meth "Over" "ends") rfl)
  me_Lean_takes := He.meth_ok (c.d.fact 95 (f := .meth "Lean" "takes") rfl)
  me_Lean_ties := He.meth_ok (c.d.fact 96 (f := .meth "Lean" "ties") rfl)
  me_Lean_ends := He.meth_ok (c.d.fact 97 (f := .meth "Lean" "ends") rfl)
  me_Grow_takes := He.meth_ok (c.d.fact 98 (f := .meth "Grow" "takes") rfl)
  me_Grow_ties := He.meth_ok (c.d.fact 99 (f := .meth "Grow" "ties") rfl)
  me_Grow_ends := He.meth_ok (c.d.fact 100 (f := .meth "Grow" "ends") rfl)
  me_Cross_takes := He.meth_ok (c.d.fact 101 (f := .meth "Cross" "takes") rfl)
  me_Cross_ties := He.meth_ok (c.d.fact 102 (f := .meth "Cross" "ties") rfl)
  me_Cross_ends := He.meth_ok (c.d.fact 103 (f := .meth "Cross" "ends") rfl)
  me_Off_takes := He.meth_ok (c.d.fact 104 (f := .meth "Off" "takes") rfl)
  me_Off_ties := He.meth_ok (c.d.fact 105 (f := .meth "Off" "ties") rfl)
  me_Off_ends := He.meth_ok (c.d.fact 106 (f := .meth "Off" "ends") rfl)
  me_Keep_takes := He.meth_ok (c.d.fact 107 (f := .meth "Keep" "takes") rfl)
  me_Keep_ties := He.meth_ok (c.d.fact 108 (f := .meth "Keep" "ties") rfl)
  me_Keep_ends := He.meth_ok (c.d.fact 109 (f := .meth "Keep" "ends") rfl)
  me_Fetch_takes := He.meth_ok (c.d.fact 110 (f := .meth "Fetch" "takes") rfl)
  me_Fetch_ties := He.meth_ok (c.d.fact 111 (f := .meth "Fetch" "ties") rfl)
  me_Fetch_ends := He.meth_ok (c.d.fact 112 (f := .meth "Fetch" "ends") rfl)
  me_Needles_facing := He.meth_ok (c.d.fact 113 (f := .meth "Needles" "facing") rfl)
  me_Needles_fit := He.meth_ok (c.d.fact 114 (f := .meth "Needles" "fit") rfl)
  me_Needles_named := He.meth_ok (c.d.fact 115 (f := .meth "Needles" "named") rfl)
  me_Needles_seen := He.meth_ok (c.d.fact 116 (f := .meth "Needles" "seen") rfl)
  me_Needles_exchange := He.meth_ok (c.d.fact 117 (f := .meth "Needles" "exchange") rfl)
  me_Needles_work := He.meth_ok (c.d.fact 118 (f := .meth "Needles" "work") rfl)
  me_Needles_web := He.meth_ok (c.d.fact 119 (f := .meth "Needles" "web") rfl)
  mk_Plain := He.mkr_ok (c.d.fact 120 (f := .mkr "Plain") rfl)
  mk_Lean := He.mkr_ok (c.d.fact 121 (f := .mkr "Lean") rfl)
  mk_Grow := He.mkr_ok (c.d.fact 122 (f := .mkr "Grow") rfl)
  mk_Cross := He.mkr_ok (c.d.fact 123 (f := .mkr "Cross") rfl)
  mk_Keep := He.mkr_ok (c.d.fact 124 (f := .mkr "Keep") rfl)
  mk_Fetch := He.mkr_ok (c.d.fact 125 (f := .mkr "Fetch") rfl)
  mk_Needles := He.mkr_ok (c.d.fact 126 (f := .mkr "Needles") rfl)
  ba_Slip := bare_ok (He.ba c.ex).1
  ba_Over := bare_ok (He.ba (He.ba c.ex).2).1
  ba_Off := bare_ok (He.ba (He.ba c.ex).2).2
  du_names_of := c.d.def_ 0 (d := d_names_of) rfl
  du_drawers := c.d.def_ 1 (d := d_drawers) rfl
  du_held := c.d.def_ 2 (d := d_held) rfl
  du_loosened := c.d.def_ 3 (d := d_loosened) rfl
  du_fallen := c.d.def_ 4 (d := d_fallen) rfl
  du_undone := c.d.def_ 5 (d := d_undone) rfl
  du_way_up := c.d.def_ 6 (d := d_way_up) rfl
  du_Plain_init := c.d.def_ 7 (d := d_Plain_init) rfl
  du_Plain_ties := c.d.def_ 8 (d := d_Plain_ties) rfl
  du_Slip_ties := c.d.def_ 9 (d := d_Slip_ties) rfl
  du_Over_takes := c.d.def_ 10 (d := d_Over_takes) rfl
  du_Over_ties := c.d.def_ 11 (d := d_Over_ties) rfl
  du_Lean_init := c.d.def_ 12 (d := d_Lean_init) rfl
  du_Lean_takes := c.d.def_ 13 (d := d_Lean_takes) rfl
  du_Lean_ties := c.d.def_ 14 (d := d_Lean_ties) rfl
  du_Grow_init := c.d.def_ 15 (d := d_Grow_init) rfl
  du_Grow_ties := c.d.def_ 16 (d := d_Grow_ties) rfl
  du_Cross_init := c.d.def_ 17 (d := d_Cross_init) rfl
  du_Cross_takes := c.d.def_ 18 (d := d_Cross_takes) rfl
  du_Cross_ties := c.d.def_ 19 (d := d_Cross_ties) rfl
  du_Off_ends := c.d.def_ 20 (d := d_Off_ends) rfl
  du_Keep_init := c.d.def_ 21 (d := d_Keep_init) rfl
  du_Keep_ends := c.d.def_ 22 (d := d_Keep_ends) rfl
  du_Fetch_init := c.d.def_ 23 (d := d_Fetch_init) rfl
  du_Fetch_takes := c.d.def_ 24 (d := d_Fetch_takes) rfl
  du_Fetch_ties := c.d.def_ 25 (d := d_Fetch_ties) rfl
  du_short_one := c.d.def_ 26 (d := d_short_one) rfl
  du_long_one := c.d.def_ 27 (d := d_long_one) rfl
  du_stitch := c.d.def_ 28 (d := d_stitch) rfl
  du_fetched := c.d.def_ 29 (d := d_fetched) rfl
  du_put_away := c.d.def_ 30 (d := d_put_away) rfl
  du_many_new := c.d.def_ 31 (d := d_many_new) rfl
  du_Needles_init := c.d.def_ 32 (d := d_Needles_init) rfl
  du_Needles_facing := c.d.def_ 33 (d := d_Needles_facing) rfl
  du_Needles_fit := c.d.def_ 34 (d := d_Needles_fit) rfl
  du_Needles_named := c.d.def_ 35 (d := d_Needles_named) rfl
  du_Needles_seen := c.d.def_ 36 (d := d_Needles_seen) rfl
  du_Needles_exchange := c.d.def_ 37 (d := d_Needles_exchange) rfl
  du_Needles_work := c.d.def_ 38 (d := d_Needles_work) rfl
  du_Needles_web := c.d.def_ 39 (d := d_Needles_web) rfl
  du_law_cell_at := c.d.def_ 40 (d := d_law_cell_at) rfl
  du_law_whole := c.d.def_ 41 (d := d_law_whole) rfl
  du_law_name := c.d.def_ 42 (d := d_law_name) rfl
  du_law_listed := c.d.def_ 43 (d := d_law_listed) rfl
  du_law_takes := c.d.def_ 44 (d := d_law_takes) rfl
  du_law_gives := c.d.def_ 45 (d := d_law_gives) rfl
  du_law_mark := c.d.def_ 46 (d := d_law_mark) rfl
  du_law_row_end := c.d.def_ 47 (d := d_law_row_end) rfl
  du_law_add := c.d.def_ 48 (d := d_law_add) rfl
  du_law_rows := c.d.def_ 49 (d := d_law_rows) rfl
  du_law_above := c.d.def_ 50 (d := d_law_above) rfl
  du_law_ends := c.d.def_ 51 (d := d_law_ends) rfl
  du_law_ties_hold := c.d.def_ 52 (d := d_law_ties_hold) rfl
  du_law_falls := c.d.def_ 53 (d := d_law_falls) rfl
  du_law_walked := c.d.def_ 54 (d := d_law_walked) rfl
  du_law_asked_so := c.d.def_ 55 (d := d_law_asked_so) rfl
  du_law_wide := c.d.def_ 56 (d := d_law_wide) rfl
  du_law := c.d.def_ 57 (d := d_law) rfl
  du_Plain_takes := c.d.def_ 58 (d := d_Plain_takes) rfl
  du_Plain_ends := c.d.def_ 59 (d := d_Plain_ends) rfl
  du_Slip_takes := c.d.def_ 60 (d := d_Slip_takes) rfl
  du_Slip_ends := c.d.def_ 61 (d := d_Slip_ends) rfl
  du_Over_ends := c.d.def_ 62 (d := d_Over_ends) rfl
  du_Lean_ends := c.d.def_ 63 (d := d_Lean_ends) rfl
  du_Grow_takes := c.d.def_ 64 (d := d_Grow_takes) rfl
  du_Grow_ends := c.d.def_ 65 (d := d_Grow_ends) rfl
  du_Cross_ends := c.d.def_ 66 (d := d_Cross_ends) rfl
  du_Off_takes := c.d.def_ 67 (d := d_Off_takes) rfl
  du_Off_ties := c.d.def_ 68 (d := d_Off_ties) rfl
  du_Keep_takes := c.d.def_ 69 (d := d_Keep_takes) rfl
  du_Keep_ties := c.d.def_ 70 (d := d_Keep_ties) rfl
  du_Fetch_ends := c.d.def_ 71 (d := d_Fetch_ends) rfl

/-! ### calls by promise -/
section
variable (P : Program) (w : World) (K : PySem.W.Frag) (mg : Str → Option Value) (base : Heap)
/-- the def of the module's name x keeps sp -/
def Cal (x : Str) (k : Nat) (ps : List Str) (sp : Sp) : Prop := mg x = some (.ref (He.ga K x)) ∧ PySem.W.keepIn K (.ref (He.ga K x)) = true ∧ ∃ fd, FnOk P w K mg base CX0 k (He.ga K x) fd ps sp ∧ Binds K fd ps []
/-- the method m of the class C keeps sp -/
def CalM (C : Addr) (m : Str) (k : Nat) (ps : List Str) (sp : Sp) : Prop := Cls K C ∧ Meth K C m (He.ma K C m) ∧ ∃ fd, FnOk P w K mg base CX0 k (He.ma K C m) fd ps sp ∧ Binds K fd ps []
/-- a class that is made by its own init -/
def CalI (x : Str) (k : Nat) (ps : List Str) (sp : Sp) : Prop := mg x = some (.ref (He.ga K x)) ∧ Mk K (He.ga K x) (He.ma K (He.ga K x) "__init__") ∧ ∃ fd, FnOk P w K mg base CX0 k (He.ma K (He.ga K x) "__init__") fd ps sp ∧ Binds K fd ps []
/-- .. whose last parameters are left to their defaults -/
def CalID (x : Str) (k : Nat) (ps : List Str) (sp : Sp) (dvs : List V) : Prop := mg x = some (.ref (He.ga K x)) ∧ Mk K (He.ga K x) (He.ma K (He.ga K x) "__init__") ∧ ∃ fd ds, FnOk P w K mg base CX0 k (He.ma K (He.ga K x) "__init__") fd ps sp ∧ Vals dvs ds ∧ Binds K fd ps ds
end
section
variable {X : Cx} {x m : Str} {p pos apos : Pos} {e o : Expr} {es : List Expr} {t : TA} {ta : TE} {k : Nat} {ps : List Str} {sp : Sp} {C : Addr}
theorem pe_cal (c : Cal X.prog X.w X.K X.mg X.base x k ps sp) (hr : Room k X.A) (hg : Gl X x) (ha : PA X (e :: es) t) (hdb : (x == ("__debug__" : Str)) = false := by decide)
    (he : starEach (e :: es) X.env = (false, eval e X.env) :: starEach es X.env := by rfl) (hpl : (backTo pos (starEach es X.env)).any (·.1) = false := by rfl) :
    PE X (.Call (.Name x p) (e :: es) [] pos) (tCall sp [] E0 t) := by
  obtain ⟨hm, kp, fd, G, b⟩ := c
  exact pe_call G hr hg hm kp b .nil pass0 ha hdb he hpl
theorem pe_calm {pl : Sem Bool} (c : CalM X.prog X.w X.K X.mg X.base C m k ps sp) (hr : Room k X.A) (ho : PE X o ta) (ha : PA X (e :: es) t)
    (s1 : starEach (e :: es) X.env = (false, eval e X.env) :: starEach es X.env := by rfl) (s2 : (backTo pos (starEach es X.env)).any (·.1) = false := by rfl)
    (s3 : eval (.Call (.Attribute o m apos) (e :: es) [] pos) X.env =
      (do let ov ← eval o X.env; standAt apos.atName; let (f, first) ← holding [ov] (getMethod ov m pl); callWith pos f first (backTo pos (starEach (e :: es) X.env)) (backToKw pos (keywordEach [] X.env))) := by rfl) :
    PE X (.Call (.Attribute o m apos) (e :: es) [] pos) (tMeth C m sp [] E0 ta t) := by
  obtain ⟨hc, hm, fd, G, b⟩ := c
  exact pe_meth (pl := pl) ho hc hm G hr b .nil pass0 ha s1 s2 s3
theorem pe_calm0 {pl : Sem Bool} (c : CalM X.prog X.w X.K X.mg X.base C m k ps sp) (hr : Room k X.A) (ho : PE X o ta)
    (s3 : eval (.Call (.Attribute o m apos) [] [] pos) X.env =
      (do let ov ← eval o X.env; standAt apos.atName; let (f, first) ← holding [ov] (getMethod ov m pl); callWith pos f first (backTo pos (starEach [] X.env)) (backToKw pos (keywordEach [] X.env))) := by rfl) :
    PE X (.Call (.Attribute o m apos) [] [] pos) (tMeth C m sp [] E0 ta tNil) := by
  obtain ⟨hc, hm, fd, G, b⟩ := c
  exact pe_meth0 (pl := pl) ho hc hm G hr b .nil pass0 s3
theorem pe_calid {dvs : List V} (c : CalID X.prog X.w X.K X.mg X.base x k ps sp dvs) (hr : Room (k + 1) X.A) (hg : Gl X x) (ha : PA X (e :: es) t) (hdb : (x == ("__debug__" : Str)) = false := by decide)
    (he : starEach (e :: es) X.env = (false, eval e X.env) :: starEach es X.env := by rfl) (hpl : (backTo pos (starEach es X.env)).any (·.1) = false := by rfl) :
    PE X (.Call (.Name x p) (e :: es) [] pos) (tMake (He.ga X.K x) sp dvs E0 t) := by
  obtain ⟨hm, M, fd, ds, G, hd, b⟩ := c
  exact pe_make M G hr hg hm b hd pass0 ha hdb he hpl
theorem pe_cali (c : CalI X.prog X.w X.K X.mg X.base x k ps sp) (hr : Room (k + 1) X.A) (hg : Gl X x) (ha : PA X (e :: es) t) (hdb : (x == ("__debug__" : Str)) = false := by decide)
    (he : starEach (e :: es) X.env = (false, eval e X.env) :: starEach es X.env := by rfl) (hpl : (backTo pos (starEach es X.env)).any (·.1) = false := by rfl) :
    PE X (.Call (.Name x p) (e :: es) [] pos) (tMake (He.ga X.K x) sp [] E0 t) := by
  obtain ⟨hm, M, fd, G, b⟩ := c
  exact pe_make M G hr hg hm b .nil pass0 ha hdb he hpl
end
end K34
set_option autoImplicit true
set_option Elab.async false
set_option linter.all false
set_option maxRecDepth 100000
set_option maxHeartbeats 4000000
/-! Words about the heap. -/
namespace K34
open PySem PySem.Spec PyProof.Rows L2

/-! ### two lists, place by place -/
def All2 {α : Type} (R : V → α → Prop) (vs : List V) (xs : List α) : Prop := vs.length = xs.length ∧ ∀ (i : Nat) v x, vs[i]? = some v → xs[i]? = some x → R v x
section
variable {α β : Type} {R : V → α → Prop} {vs ws : List V} {xs ys : List α}
theorem All2.nil : All2 R [] [] := ⟨rfl, fun i v x h => by simp at h⟩
theorem All2.get (h : All2 R vs xs) {i : Nat} {x : α} (e : xs[i]? = some x) : ∃ v, vs[i]? = some v ∧ R v x := by
  obtain ⟨h1, _⟩ := List.getElem?_eq_some_iff.mp e
  have h2 : i < vs.length := by rw [h.1]; exact h1
  exact ⟨vs[i], List.getElem?_eq_getElem h2, h.2 i _ _ (List.getElem?_eq_getElem h2) e⟩
theorem All2.getV (h : All2 R vs xs) {i : Nat} {v : V} (e : vs[i]? = some v) : ∃ x, xs[i]? = some x ∧ R v x := by
  obtain ⟨h1, _⟩ := List.getElem?_eq_some_iff.mp e
  have h2 : i < xs.length := by rw [← h.1]; exact h1
  exact ⟨xs[i], List.getElem?_eq_getElem h2, h.2 i _ _ e (List.getElem?_eq_getElem h2)⟩
theorem All2.mono {S : V → α → Prop} (h : All2 R vs xs) (k : ∀ v x, R v x → S v x) : All2 S vs xs := ⟨h.1, fun i v x e1 e2 => k v x (h.2 i v x e1 e2)⟩
theorem All2.append (h : All2 R vs xs) (k : All2 R ws ys) : All2 R (vs ++ ws) (xs ++ ys) := by
  refine ⟨by rw [List.length_append, List.length_append, h.1, k.1], fun i v x e1 e2 => ?_⟩
  rw [List.getElem?_append] at e1 e2
  by_cases q : i < xs.length
  · rw [if_pos (by rw [h.1]; exact q)] at e1
    rw [if_pos q] at e2
    exact h.2 i v x e1 e2
  · rw [if_neg (by rw [h.1]; exact q), h.1] at e1
    rw [if_neg q] at e2
    exact k.2 _ v x e1 e2
theorem All2.one {v : V} {x : α} (h : R v x) : All2 R [v] [x] := ⟨rfl, fun i w y e1 e2 => by
  cases i with
  | zero => cases e1; cases e2; exact h
  | succ i => simp at e1⟩
theorem All2.snoc {v : V} {x : α} (h : All2 R vs xs) (k : R v x) : All2 R (vs ++ [v]) (xs ++ [x]) := h.append (.one k)
theorem All2.reverse (h : All2 R vs xs) : All2 R vs.reverse xs.reverse := by
  refine ⟨by rw [List.length_reverse, List.length_reverse, h.1], fun i v x e1 e2 => ?_⟩
  have l1 := (List.getElem?_eq_some_iff.mp e1).1
  have l2 := (List.getElem?_eq_some_iff.mp e2).1
  rw [List.length_reverse] at l1 l2
  rw [List.getElem?_reverse l1] at e1
  rw [List.getElem?_reverse l2] at e2
  rw [h.1] at e1
  exact h.2 _ v x e1 e2
theorem All2.take (h : All2 R vs xs) (n : Nat) : All2 R (vs.take n) (xs.take n) := by
  refine ⟨by rw [List.length_take, List.length_take, h.1], fun i v x e1 e2 => ?_⟩
  rw [List.getElem?_take] at e1 e2
  by_cases q : i < n
  · rw [if_pos q] at e1 e2
    exact h.2 i v x e1 e2
  · rw [if_neg q] at e1
    cases e1
theorem All2.drop (h : All2 R vs xs) (n : Nat) : All2 R (vs.drop n) (xs.drop n) := by
  refine ⟨by rw [List.length_drop, List.length_drop, h.1], fun i v x e1 e2 => ?_⟩
  rw [List.getElem?_drop] at e1 e2
  exact h.2 _ v x e1 e2
theorem All2.map {S : V → β → Prop} (f : β → α) {zs : List β} (h : All2 S vs zs) (k : ∀ v z, S v z → R v (f z)) : All2 R vs (zs.map f) := by
  refine ⟨by rw [List.length_map, h.1], fun i v x e1 e2 => ?_⟩
  rw [List.getElem?_map] at e2
  cases q : zs[i]? with
  | none => rw [q] at e2; cases e2
  | some z =>
    rw [q] at e2
    cases e2
    exact k v z (h.2 i v z e1 q)
theorem All2.isNil (h : All2 R vs xs) : vs = [] ↔ xs = [] := by
  rw [← List.length_eq_zero_iff, ← List.length_eq_zero_iff, h.1]
end

/-! ### heaps -/
theorem sm_upd {H H' : Hp} {p : Addr} {o : HO} (s : Same H H') (h : H p = none) : Same H (upd H' p o) := fun b u e => by
  rw [upd_ne (ne_of_none e h)]
  exact s b u e
theorem sm_new {H : Hp} {p : Addr} {o : HO} (h : H p = none) : Same H (upd H p o) := sm_upd (Same.refl H) h
/-- the heap without the objects at M -/
def msk (M : List Addr) (H : Hp) : Hp := fun b => if b ∈ M then none else H b
section
variable {M N : List Addr} {H H' : Hp} {a p : Addr} {o u : HO}
theorem msk_in (h : a ∈ M) : msk M H a = none := if_pos h
theorem msk_out (h : a ∉ M) : msk M H a = H a := if_neg h
theorem msk_of (h : msk M H a = some o) : H a = some o ∧ a ∉ M := by
  by_cases q : a ∈ M
  · rw [msk_in q] at h; cases h
  · rw [msk_out q] at h; exact ⟨h, q⟩
theorem msk_same : Same (msk M H) H := fun _ _ e => (msk_of e).1
/-- a masked object changes -/
theorem msk_upd (h : a ∈ M) : msk M (upd H a o) = msk M H := by
  funext b
  by_cases q : b ∈ M
  · rw [msk_in q, msk_in q]
  · rw [msk_out q, msk_out q, upd_ne fun e => q (by rw [e]; exact h)]
/-- a new object that is not masked -/
theorem msk_new (h : p ∉ M) : msk M (upd H p o) = upd (msk M H) p o := by
  funext b
  by_cases e : b = p
  · subst e; rw [msk_out h, upd_same, upd_same]
  · rw [upd_ne e]
    by_cases q : b ∈ M
    · rw [msk_in q, msk_in q]
    · rw [msk_out q, msk_out q, upd_ne e]
/-- a new object is masked -/
theorem msk_cons (h : H p = none) : msk (p :: M) (upd H p o) = msk M H := by
  funext b
  by_cases e : b = p
  · subst e
    rw [msk_in List.mem_cons_self]
    by_cases q : b ∈ M
    · rw [msk_in q]
    · rw [msk_out q, h]
  · by_cases q : b ∈ M
    · rw [msk_in q, msk_in (List.mem_cons_of_mem _ q)]
    · rw [msk_out q, msk_out (by simp [e, q]), upd_ne e]
theorem msk_mono (s : Same H H') : Same (msk M H) (msk M H') := fun b u e => by
  obtain ⟨h1, h2⟩ := msk_of e
  rw [msk_out h2]
  exact s b u h1
theorem msk_into (s : Same H H') (h : ∀ a ∈ M, H a = none) : Same H (msk M H') := fun b u e => by
  rw [msk_out fun q => by rw [h b q] at e; cases e]
  exact s b u e
theorem msk_nil : msk [] H = H := by
  funext b
  exact msk_out (by simp)
theorem msk_sub (h : ∀ a ∈ N, a ∈ M) : Same (msk M H) (msk N H) := fun b u e => by
  obtain ⟨h1, h2⟩ := msk_of e
  rw [msk_out fun q => h2 (h b q)]
  exact h1
end

/-! ### names, loops, rows, webs in the heap -/
def NmR (H : Hp) (v : V) (n : Name) : Prop := ∃ t, v = .ref t ∧ H t = some (.tup [.int n.1, .int n.2])
def NmsL (H : Hp) (a : Addr) (ns : List Name) : Prop := ∃ vs, H a = some (.lst vs) ∧ All2 (NmR H) vs ns
def NmsT (H : Hp) (a : Addr) (ns : List Name) : Prop := ∃ vs, H a = some (.tup vs) ∧ All2 (NmR H) vs ns
def LoopR (H : Hp) (v : V) (ps : List Name) : Prop := ∃ (t pt : Addr) (s l : Int), v = .ref t ∧ H t = some (.tup [.ref pt, .int s, .int l]) ∧ NmsT H pt ps
def RowR (H : Hp) (v : V) (row : List (List Name)) : Prop := ∃ a vs, v = .ref a ∧ H a = some (.lst vs) ∧ All2 (LoopR H) vs row
def RowsL (H : Hp) (a : Addr) (rows : Rows) : Prop := ∃ vs, H a = some (.lst vs) ∧ All2 (RowR H) vs rows
def W.str (k : W) : Str := ⟨#[k.code]⟩
def KeptR (H : Hp) (v : V) (q : W × List Name) : Prop := ∃ t a, v = .ref t ∧ H t = some (.tup [.str q.1.str, .ref a]) ∧ NmsL H a q.2
def KeptL (H : Hp) (a : Addr) (kp : List (W × List Name)) : Prop := ∃ vs, H a = some (.lst vs) ∧ All2 (KeptR H) vs kp
/-- a web -/
structure WebD where
  rows : Rows
  ly : List Name
  kp : List (W × List Name)
  off : List Name
def WebR (H : Hp) (v : V) (d : WebD) : Prop := ∃ t ra la ka oa, v = .ref t ∧ H t = some (.tup [.ref ra, .ref la, .ref ka, .ref oa]) ∧ RowsL H ra d.rows ∧ NmsL H la d.ly ∧ KeptL H ka d.kp ∧ NmsL H oa d.off
section
variable {H H' : Hp} {v : V} {a : Addr} {n : Name} {ns ps : List Name} {row : List (List Name)} {rows : Rows}
theorem NmR.mono (s : Same H H') (h : NmR H v n) : NmR H' v n := let ⟨t, e, q⟩ := h; ⟨t, e, s _ _ q⟩
theorem NmsL.mono (s : Same H H') (h : NmsL H a ns) : NmsL H' a ns := let ⟨vs, e, q⟩ := h; ⟨vs, s _ _ e, q.mono fun _ _ => NmR.mono s⟩
theorem NmsT.mono (s : Same H H') (h : NmsT H a ns) : NmsT H' a ns := let ⟨vs, e, q⟩ := h; ⟨vs, s _ _ e, q.mono fun _ _ => NmR.mono s⟩
theorem LoopR.mono (s : Same H H') (h : LoopR H v ps) : LoopR H' v ps := let ⟨t, pt, x, y, e, q, r⟩ := h; ⟨t, pt, x, y, e, s _ _ q, r.mono s⟩
theorem RowR.mono (s : Same H H') (h : RowR H v row) : RowR H' v row := let ⟨t, vs, e, q, r⟩ := h; ⟨t, vs, e, s _ _ q, r.mono fun _ _ => LoopR.mono s⟩
theorem RowsL.mono (s : Same H H') (h : RowsL H a rows) : RowsL H' a rows := let ⟨vs, e, q⟩ := h; ⟨vs, s _ _ e, q.mono fun _ _ => RowR.mono s⟩
theorem KeptR.mono {q : W × List Name} (s : Same H H') (h : KeptR H v q) : KeptR H' v q := let ⟨t, x, e, y, r⟩ := h; ⟨t, x, e, s _ _ y, r.mono s⟩
theorem KeptL.mono {kp : List (W × List Name)} (s : Same H H') (h : KeptL H a kp) : KeptL H' a kp := let ⟨vs, e, q⟩ := h; ⟨vs, s _ _ e, q.mono fun _ _ => KeptR.mono s⟩
theorem WebR.mono {d : WebD} (s : Same H H') (h : WebR H v d) : WebR H' v d :=
  let ⟨t, ra, la, ka, oa, e, q, r1, r2, r3, r4⟩ := h; ⟨t, ra, la, ka, oa, e, s _ _ q, r1.mono s, r2.mono s, r3.mono s, r4.mono s⟩
end

/-! ### dicts whose keys are names -/
def keyN (n : Name) : List Key := [.inl (n.1 : Int), .inl (n.2 : Int)]
theorem keyN_inj {n m : Name} (h : keyN n = keyN m) : n = m := by
  unfold keyN at h
  simp only [List.cons.injEq, Sum.inl.injEq, and_true] at h
  exact Prod.ext (by omega) (by omega)
theorem keyN_val (n : Name) : (keyN n).map kV = [V.int n.1, V.int n.2] := rfl
def dcl (ns : List Name) (f : Name → V) : List (List Key × V) := ns.map fun n => (keyN n, f n)
section
variable {ns : List Name} {f : Name → V} {n : Name} {v : V}
theorem dcl_val : ∀ {ns : List Name}, valV (dcl ns f) (keyN n) = if n ∈ ns then some (f n) else none
  | [] => rfl
  | m :: r => by
    show valV ((keyN m, f m) :: dcl r f) (keyN n) = _
    by_cases e : m = n
    · subst e
      rw [valV_pos rfl, if_pos List.mem_cons_self]
    · rw [valV_neg fun q => e (keyN_inj q), dcl_val]
      have : n ∈ m :: r ↔ n ∈ r := by rw [List.mem_cons]; exact ⟨fun h => h.resolve_left fun q => e q.symm, .inr⟩
      by_cases q : n ∈ r
      · rw [if_pos q, if_pos (this.mpr q)]
      · rw [if_neg q, if_neg fun z => q (this.mp z)]
theorem dcl_in (h : n ∈ ns) : valV (dcl ns f) (keyN n) = some (f n) := by rw [dcl_val, if_pos h]
theorem dcl_not (h : n ∉ ns) : valV (dcl ns f) (keyN n) = none := by rw [dcl_val, if_neg h]
theorem dcl_some : (valV (dcl ns f) (keyN n)).isSome = decide (n ∈ ns) := by
  rw [dcl_val]
  by_cases h : n ∈ ns
  · rw [if_pos h, decide_eq_true h]; rfl
  · rw [if_neg h, decide_eq_false h]; rfl
theorem dcl_congr {g : Name → V} (h : ∀ m ∈ ns, f m = g m) : dcl ns f = dcl ns g := List.map_congr_left fun m hm => by rw [h m hm]
theorem dcl_putNew (h : n ∉ ns) : putK (dcl ns f) (keyN n) v = dcl (ns ++ [n]) (fun m => if m = n then v else f m) := by
  rw [putK_new v (dcl_not h)]
  unfold dcl
  rw [List.map_append]
  congr 1
  · refine List.map_congr_left fun m hm => ?_
    have q : ¬ m = n := fun e => h (by rw [← e]; exact hm)
    simp only [if_neg q]
  · simp
theorem dcl_putOld (h : n ∈ ns) : putK (dcl ns f) (keyN n) v = dcl ns (fun m => if m = n then v else f m) := by
  unfold putK
  rw [if_pos (by rw [valV_any, dcl_in h]; rfl)]
  unfold dcl
  rw [List.map_map]
  refine List.map_congr_left fun m hm => ?_
  by_cases e : m = n
  · subst e; simp
  · have : ¬ keyN m = keyN n := fun q => e (keyN_inj q)
    simp [e, this]
theorem dcl_length : (dcl ns f).length = ns.length := by simp [dcl]
theorem dcl_keys : (dcl ns f).map (·.1) = ns.map keyN := by simp [dcl]
/-- a dict by names -/
theorem dget_n {H : Hp} {a b : Addr} (e : Rd H a (.dT (dcl ns f))) (eb : H b = some (.tup [.int n.1, .int n.2])) : DGet H a (.ref b) (if n ∈ ns then some (f n) else none) :=
  .inr ⟨dcl ns f, keyN n, b, e, rfl, by rw [keyN_val]; exact eb, dcl_val.symm⟩
end
end K34
set_option autoImplicit true
set_option Elab.async false
set_option linter.all false
set_option maxRecDepth 100000
set_option maxHeartbeats 4000000
namespace K34
open PySem PySem.Spec PyProof.Rows L2
variable {P : Program} {w : World} {K : PySem.W.Frag} {mg : Str → Option Value} {base : Heap}

/-! ### names_of -/
/-- all names that are kept -/
def kpAll (d : WebD) : List Name := d.kp.flatMap fun q => q.2
/-- all that are held at the end -/
def heldL (d : WebD) : List Name := d.ly ++ d.off ++ kpAll d
/-- sizes that keep within the lines -/
structure Small (d : WebD) : Prop where
  nm : (names d.rows).length ≤ 100000
  rw : d.rows.length ≤ 100000
  ed : (eNames d.rows (names d.rows)).length ≤ 40000
  ly : d.ly.length ≤ 30000
  off : d.off.length ≤ 30000
  kp : (kpAll d).length ≤ 30000
theorem szl {n : Nat} (h : n ≤ 100000) : n ≤ sizeLine := Nat.le_trans h (by decide)
theorem szt {n : Nat} (h : n ≤ 100000) : n < sizeLine := Nat.lt_of_le_of_lt h (by decide)
theorem namesN_le (rows : Rows) {i k : Nat} (h : i ≤ k) : (namesN rows i).length ≤ (namesN rows k).length := by
  induction k with
  | zero => rw [Nat.le_zero.mp h]; exact Nat.le_refl _
  | succ k ih =>
    by_cases e : i = k + 1
    · rw [e]; exact Nat.le_refl _
    · refine Nat.le_trans (ih (by omega)) ?_
      show _ ≤ (namesN rows k ++ _).length
      rw [List.length_append]
      exact Nat.le_add_right _ _
def spNamesOf : Sp := fun vs H Q _ => ∃ (v : V) (d : WebD), vs = [v] ∧ WebR H v d ∧ Small d ∧ ∀ H' a, Same H H' → H a = none → NmsL H' a (names d.rows) → Q (.ref a) H'
theorem sc_names_of : FnScope ["web", "found", "row", "place"] ["web"] (defScope s_names_of) := ⟨rfl, rfl, rfl, by decide +kernel, rfl, by decide +kernel, by decide +kernel⟩
theorem ok_names_of (Z : Zt K mg) : Cal P w K mg base "names_of" 1 ["web"] spNamesOf := by
  obtain ⟨fd, F⟩ := Z.du_names_of
  refine ⟨Z.gl_names_of, F.kp, fd, F.ok sc_names_of (fun vs H Q E h => ?_) (fun cdv A outer s H vs Q E hr h => ?_), FunD.bindsN F fun _ _ _ _ _ _ us hl => match us, hl with | [_], _ => rfl⟩
  · obtain ⟨v, d, rfl, _⟩ := h
    rfl
  · obtain ⟨v, d, rfl, hw, hsm, k⟩ := h
    obtain ⟨t, ra, la, ka, oa, rfl, hT, ⟨rvs, hra, hrows⟩, _⟩ := hw
    refine ⟨_, PSs.nox (pss_cons (ps_set (i := 1) sc_names_of.nd rfl (Or.inl rfl) (pe_lst pa_nil))
      (pss_cons (ps_for PassesOwn.never rfl (pi_range1 (by rfl) Z.fr_range (pa_cons (pe_callB call_len_seq (by rfl) Z.fr_len PySem.boot_len (pa_cons (pe_ix ix_tup (pv 0) pe_int (fun _ _ => rfl)) pa_nil)) pa_nil)) (pg_name (i := 2) sc_names_of.nd rfl (Or.inl rfl)) (pss_one (ps_for PassesOwn.never rfl (pi_range1 (by rfl) Z.fr_range (pa_cons (pe_callB call_len_seq (by rfl) Z.fr_len PySem.boot_len (pa_cons (pe_ix ix_list (pe_ix ix_tup (pv 0) pe_int (fun _ _ => rfl)) (pv 2) (fun _ _ => rfl)) pa_nil)) pa_nil)) (pg_name (i := 3) sc_names_of.nd rfl (Or.inl rfl)) (pss_one (ps_expr (pe_bm PySem.F.plainAttrs_list PySem.F.slot_list_append PySem.F.type_list_append mt_append (pv 1) (pa_cons (pe_tup (pa_cons (pv 2) (pa_cons (pv 3) pa_nil))) pa_nil)))))))
      (pss_one (ps_ret (pv 1))))), ?_⟩
    -- found = []
    refine ⟨Nat.zero_le _, fun l hl => ?_⟩
    have hS0 : Same H (msk [l] (upd H l (.lst []))) := msk_into (sm_new hl) fun a ha => by rw [List.mem_singleton.mp ha]; exact hl
    -- for row in range(len(web[0]))
    refine ⟨_, rfl, t, _, 0, _, rfl, rfl, SqT.of (sm_new hl _ _ hT), rfl, ra, rvs, rfl, .inl (SqL.of (sm_new hl _ _ hra)), _, rfl, by omega, by have := hsm.rw; have := hrows.1; omega,
      for_range (lo := 0) (n := rvs.length) (fun i σ H' => ∃ a b vs, σ = [some (.ref t), some (.ref l), a, b] ∧ Same H (msk [l] H') ∧ H' l = some (.lst vs) ∧ All2 (NmR (msk [l] H')) vs (namesN d.rows i))
        ⟨none, none, [], rfl, hS0, upd_same, .nil⟩ ?_ ?_⟩
    · rintro i σ H' hi ⟨a, b, vs, rfl, hS, hL, hA⟩
      have hS' : Same H H' := hS.trans msk_same
      have hi' : i < d.rows.length := by rw [← hrows.1]; exact hi
      obtain ⟨rv, e1, ⟨r, rws, rfl, hr, hrw⟩⟩ := hrows.get (List.getElem?_eq_getElem hi')
      have hwid : wid d.rows i = rws.length := by
        unfold wid
        rw [List.getD_eq_getElem?_getD, List.getElem?_eq_getElem hi', hrw.1]
        rfl
      have hlen : (namesN d.rows (i + 1)).length ≤ 100000 := Nat.le_trans (namesN_le d.rows (by omega)) hsm.nm
      have hlen2 : (namesN d.rows i ++ nmRow i (wid d.rows i)).length ≤ 100000 := hlen
      rw [List.length_append, length_nmRow, hwid] at hlen2
      -- for place in range(len(web[0][row]))
      refine ⟨_, rfl, t, _, 0, _, rfl, rfl, SqT.of (hS' _ _ hT), rfl, _, rfl, ra, rvs, _, _, rfl, rfl, SqL.of (hS' _ _ hra), at_of (j := i) (by omega) e1, r, rws, rfl, .inl (SqL.of (hS' _ _ hr)), _, rfl, by omega, by omega,
        for_range (lo := 0) (n := rws.length) (fun j σ H' => ∃ b vs, σ = [some (.ref t), some (.ref l), some (.int (0 + (i : Int))), b] ∧ Same H (msk [l] H') ∧ H' l = some (.lst vs) ∧ All2 (NmR (msk [l] H')) vs (namesN d.rows i ++ nmRow i j))
          ⟨b, vs, rfl, hS, hL, by simpa [nmRow] using hA⟩ ?_ ?_⟩
      · rintro j σ H2 hj ⟨b, vs, rfl, hS, hL, hA⟩
        refine ⟨_, rfl, .inl ⟨rfl, _, SqL.of hL⟩, _, rfl, _, rfl, (by show 2 ≤ sizeLine; decide), fun p hp => ?_⟩
        have hpl : p ≠ l := fun e => by rw [e, hL] at hp; cases hp
        have hm : msk [l] (upd H2 p (.tup [.int (0 + (i : Int)), .int (0 + (j : Int))])) = upd (msk [l] H2) p (.tup [.int (0 + (i : Int)), .int (0 + (j : Int))]) := msk_new (by simpa using hpl)
        have hpm : msk [l] H2 p = none := by rw [msk_out (by simpa using hpl)]; exact hp
        have hL2 : (upd H2 p (.tup [.int (0 + (i : Int)), .int (0 + (j : Int))])) l = some (.lst vs) := by rw [upd_ne hpl.symm]; exact hL
        have hlv : vs.length < sizeLine := szt (by rw [hA.1, List.length_append, length_nmRow]; omega)
        refine ⟨l, vs, _, rfl, rfl, hL2, hlv, _, _, rfl, ?_, upd_same, ?_⟩
        · rw [msk_upd (by simp), hm]
          exact hS.trans (sm_new hpm)
        · rw [msk_upd (by simp), hm, nmRow_succ, ← List.append_assoc]
          refine (hA.mono fun v x => NmR.mono (sm_new hpm)).snoc ⟨p, rfl, ?_⟩
          rw [upd_same, Int.zero_add, Int.zero_add]
      · rintro σ H2 ⟨b, vs, rfl, hS, hL, hA⟩
        exact ⟨_, _, vs, rfl, hS, hL, by rw [← hwid] at hA; exact hA⟩
    · rintro σ H' ⟨a, b, vs, rfl, hS, hL, hA⟩
      rw [hrows.1] at hA
      exact ⟨_, rfl, k H' l (hS.trans msk_same) hl ⟨vs, hL, hA.mono fun v x => NmR.mono msk_same⟩⟩

/-! ### drawers -/
theorem rows_at {H : Hp} {ra : Addr} {rows : Rows} {m : Name} (h : RowsL H ra rows) (hm : m ∈ names rows) : ∃ rvs r rws t pt vs, ∃ s l : Int, H ra = some (.lst rvs) ∧ rvs[m.1]? = some (.ref r) ∧ H r = some (.lst rws) ∧
    rws[m.2]? = some (.ref t) ∧ H t = some (.tup [.ref pt, .int s, .int l]) ∧ H pt = some (.tup vs) ∧ All2 (NmR H) vs (par rows m) := by
  obtain ⟨rvs, h1, h2⟩ := h
  have hm' := mem_names.mp hm
  have h1' : m.1 < rows.length := (mem_namesN.mp hm).1
  obtain ⟨rv, e1, ⟨r, rws, rfl, h3, h4⟩⟩ := h2.get (List.getElem?_eq_getElem h1')
  have e2 : rows.getD m.1 [] = rows[m.1] := by rw [List.getD_eq_getElem?_getD, List.getElem?_eq_getElem h1']; rfl
  have h2' : m.2 < rows[m.1].length := by unfold wid at hm'; rw [e2] at hm'; exact hm'
  obtain ⟨lv, e3, ⟨t, pt, s, l, rfl, h5, vs, h6, h7⟩⟩ := h4.get (List.getElem?_eq_getElem h2')
  have e4 : par rows m = rows[m.1][m.2] := by unfold par; rw [e2, List.getD_eq_getElem?_getD, List.getElem?_eq_getElem h2']; rfl
  exact ⟨rvs, r, rws, t, pt, vs, s, l, h1, e1, h3, e3, h5, h6, by rw [e4]; exact h7⟩
theorem msk_congr {M N : List Addr} {H : Hp} (h : ∀ a, a ∈ M ↔ a ∈ N) : msk M H = msk N H := by
  funext b
  by_cases q : b ∈ M
  · rw [msk_in q, msk_in ((h b).mp q)]
  · rw [msk_out q, msk_out fun z => q ((h b).mpr z)]
/-- the drawers of all loops, told by a dict at a -/
def AboveR (H : Hp) (a : Addr) (rows : Rows) : Prop := ∃ al : Name → Addr, Rd H a (.dT (dcl (names rows) fun n => .ref (al n))) ∧ ∀ n, n ∈ names rows → NmsL H (al n) (abv rows n)
theorem rd_mono {H H' : Hp} {a : Addr} {u : HO} (s : Same H H') (h : Rd H a u) : Rd H' a u := h.elim (fun e => .inl (s _ _ e)) fun ⟨o, e⟩ => .inr ⟨o, s _ _ e⟩
theorem AboveR.mono {H H' : Hp} {a : Addr} {rows : Rows} (s : Same H H') (h : AboveR H a rows) : AboveR H' a rows := let ⟨al, h1, h2⟩ := h; ⟨al, rd_mono s h1, fun n hn => (h2 n hn).mono s⟩
theorem take_snoc {α : Type} {l : List α} {i : Nat} {a : α} (h : l[i]? = some a) : l.take (i + 1) = l.take i ++ [a] := by rw [List.take_add_one, h]; rfl
theorem notin_take {α : Type} {l : List α} (hn : l.Nodup) {i : Nat} {a : α} (h : l[i]? = some a) : a ∉ l.take i := fun hm => by
  obtain ⟨j, hj⟩ := List.mem_iff_getElem?.mp hm
  rw [List.getElem?_take] at hj
  by_cases q : j < i
  · rw [if_pos q] at hj
    have := nd_ix hn hj h
    omega
  · rw [if_neg q] at hj
    cases hj
/-- a dict at D that is being filled: under each name of ks a list of its own of the names c -/
structure DLst (G0 H : Hp) (D : Addr) (ks : List Name) (al : Name → Addr) (c : Name → List Name) : Prop where
  st : Same G0 (msk (D :: ks.map al) H)
  dc : H D = some (.dT (dcl ks fun n => .ref (al n)))
  ls : ∀ n, n ∈ ks → ∃ vs, H (al n) = some (.lst vs) ∧ All2 (NmR (msk (D :: ks.map al) H)) vs (c n)
  inj : ∀ n m, n ∈ ks → m ∈ ks → al n = al m → n = m
section
variable {G0 H H' : Hp} {D : Addr} {ks : List Name} {al : Name → Addr} {c c' : Name → List Name}
theorem DLst.init (h : H D = some (.dT [])) (s : Same G0 (msk [D] H)) : DLst G0 H D [] al c := ⟨s, h, fun n hn => by simp at hn, fun n m hn => by simp at hn⟩
theorem DLst.ext (d : DLst G0 H D ks al c) (s : Same H H') : DLst G0 H' D ks al c :=
  ⟨d.st.trans (msk_mono s), s _ _ d.dc, fun n hn => let ⟨vs, h1, h2⟩ := d.ls n hn; ⟨vs, s _ _ h1, h2.mono fun _ _ => NmR.mono (msk_mono s)⟩, d.inj⟩
theorem DLst.congr (d : DLst G0 H D ks al c) (h : ∀ n, n ∈ ks → c n = c' n) : DLst G0 H D ks al c' :=
  ⟨d.st, d.dc, fun n hn => by rw [← h n hn]; exact d.ls n hn, d.inj⟩
/-- a new name with a new list -/
theorem DLst.add (d : DLst G0 H D ks al c) {n : Name} {p : Addr} (hn : n ∉ ks) (hp : H p = none) (s : Same (upd H p (.lst [])) H') (hc : c n = []) :
    DLst G0 (upd H' D (.dT (putK (dcl ks fun n => .ref (al n)) (keyN n) (.ref p)))) D (ks ++ [n]) (fun m => if m = n then p else al m) c := by
  have ek : ∀ m, m ∈ ks → ¬ m = n := fun m hm e => hn (by rw [← e]; exact hm)
  have hpD : p ≠ D := fun e => by rw [e, d.dc] at hp; cases hp
  have e1 : msk (D :: (ks ++ [n]).map (fun m => if m = n then p else al m)) (upd H' D (.dT (putK (dcl ks fun n => .ref (al n)) (keyN n) (.ref p)))) = msk (p :: D :: ks.map al) H' := by
    rw [msk_upd (by simp)]
    refine msk_congr fun a => ?_
    have e2 : ks.map (fun m => if m = n then p else al m) = ks.map al := List.map_congr_left fun m hm => if_neg (ek m hm)
    rw [List.map_append, e2]
    simp only [List.map_cons, List.map_nil, List.mem_cons, List.mem_append, List.not_mem_nil, or_false, ite_true]
    constructor
    · rintro (h | h | h)
      · exact .inr (.inl h)
      · exact .inr (.inr h)
      · exact .inl h
    · rintro (h | h | h)
      · exact .inr (.inr h)
      · exact .inl h
      · exact .inr (.inl h)
  have sM : Same (msk (D :: ks.map al) H) (msk (p :: D :: ks.map al) H') := fun b o e => by
    obtain ⟨h1, h2⟩ := msk_of e
    have hb : b ≠ p := ne_of_none h1 hp
    rw [msk_out (by rw [List.mem_cons, not_or]; exact ⟨hb, h2⟩)]
    exact s _ _ (by rw [upd_ne hb]; exact h1)
  refine ⟨?_, ?_, fun m hm => ?_, fun m m' hm hm' => ?_⟩
  · rw [e1]; exact d.st.trans sM
  · rw [upd_same, dcl_putNew hn]
    congr 2
    refine dcl_congr fun m _ => ?_
    by_cases q : m = n
    · rw [if_pos q, if_pos q]
    · rw [if_neg q, if_neg q]
  · rw [e1]
    rcases List.mem_append.mp hm with hm | hm
    · obtain ⟨vs, h1, h2⟩ := d.ls m hm
      have q1 : al m ≠ D := ne_of h1 d.dc (by intro z; cases z)
      have q2 : al m ≠ p := ne_of_none h1 hp
      refine ⟨vs, ?_, h2.mono fun _ _ => NmR.mono sM⟩
      rw [if_neg (ek m hm), upd_ne q1]
      exact s _ _ (by rw [upd_ne q2]; exact h1)
    · rw [List.mem_singleton.mp hm, hc]
      refine ⟨[], ?_, .nil⟩
      rw [if_pos rfl, upd_ne hpD]
      exact s _ _ upd_same
  · have key : ∀ x, x ∈ ks → al x ≠ p := fun x hx e => by
      obtain ⟨vs, h1, _⟩ := d.ls x hx
      rw [e, hp] at h1; cases h1
    rcases List.mem_append.mp hm with hm | hm
    · rcases List.mem_append.mp hm' with hm' | hm'
      · rw [if_neg (ek m hm), if_neg (ek m' hm')]
        exact d.inj m m' hm hm'
      · rw [List.mem_singleton.mp hm', if_neg (ek m hm), if_pos rfl]
        exact fun e => absurd e (key m hm)
    · rcases List.mem_append.mp hm' with hm' | hm'
      · rw [List.mem_singleton.mp hm, if_neg (ek m' hm'), if_pos rfl]
        exact fun e => absurd e.symm (key m' hm')
      · rw [List.mem_singleton.mp hm, List.mem_singleton.mp hm']
        exact fun _ => rfl
/-- a name behind those under p -/
theorem DLst.app (d : DLst G0 H D ks al c) {p m : Name} {v : V} {vs : List V} (hp : p ∈ ks) (hv : NmR (msk (D :: ks.map al) H) v m) (h : H (al p) = some (.lst vs)) :
    DLst G0 (upd H (al p) (.lst (vs ++ [v]))) D ks al (fun n => if n = p then c n ++ [m] else c n) := by
  have hin : al p ∈ D :: ks.map al := List.mem_cons_of_mem _ (List.mem_map.mpr ⟨p, hp, rfl⟩)
  have hD : D ≠ al p := ne_of d.dc h (by intro z; cases z)
  refine ⟨?_, ?_, fun n hn => ?_, d.inj⟩
  · rw [msk_upd hin]; exact d.st
  · rw [upd_ne hD]; exact d.dc
  · rw [msk_upd hin]
    obtain ⟨ws, h1, h2⟩ := d.ls n hn
    by_cases e : n = p
    · subst e
      rw [h] at h1
      cases h1
      exact ⟨_, upd_same, by simp only [ite_true]; exact h2.snoc hv⟩
    · exact ⟨ws, by rw [upd_ne fun q => e (d.inj n p hn hp q)]; exact h1, by simp only [if_neg e]; exact h2⟩
theorem DLst.get (d : DLst G0 H D ks al c) {n : Name} {b : Addr} (hn : n ∈ ks) (hb : H b = some (.tup [.int n.1, .int n.2])) : DGet H D (.ref b) (some (.ref (al n))) := by
  have := dget_n (f := fun n => V.ref (al n)) (ns := ks) (.inl d.dc) hb
  rwa [if_pos hn] at this
theorem NmR.out {v : V} {n : Name} {M : List Addr} (hM : ∀ a, a ∈ M → ∀ xs, H a ≠ some (.tup xs)) (h : NmR H v n) : NmR (msk M H) v n := by
  obtain ⟨t, e, h⟩ := h
  exact ⟨t, e, by rw [msk_out fun q => hM t q _ h]; exact h⟩
theorem DLst.notup (d : DLst G0 H D ks al c) : ∀ a, a ∈ D :: ks.map al → ∀ xs, H a ≠ some (.tup xs) := fun a ha xs e => by
  rcases List.mem_cons.mp ha with q | q
  · rw [q, d.dc] at e; cases e
  · obtain ⟨n, hn, q⟩ := List.mem_map.mp q
    obtain ⟨vs, h1, _⟩ := d.ls n hn
    rw [q, e] at h1; cases h1
theorem DLst.above {rows : Rows} (d : DLst G0 H D (names rows) al (abv rows)) : AboveR H D rows :=
  ⟨al, .inl d.dc, fun n hn => let ⟨vs, h1, h2⟩ := d.ls n hn; ⟨vs, h1, h2.mono fun _ _ => NmR.mono msk_same⟩⟩
theorem drw_le (E : List (Name × Name)) (n : Name) : (drw E n).length ≤ E.length := by
  unfold drw
  rw [List.length_map]
  exact List.length_filter_le _ _
end
def spDrawers : Sp := fun vs H Q _ => ∃ (v : V) (d : WebD), vs = [v] ∧ WebR H v d ∧ Small d ∧ Wf d.rows ∧ ∀ H' a, Same H H' → H a = none → AboveR H' a d.rows → Q (.ref a) H'
theorem sc_drawers : FnScope ["web", "found", "name", "parent"] ["web"] (defScope s_drawers) := ⟨rfl, rfl, rfl, by decide +kernel, rfl, by decide +kernel, by decide +kernel⟩
theorem ok_drawers (Z : Zt K mg) : Cal P w K mg base "drawers" 2 ["web"] spDrawers := by
  obtain ⟨fd, F⟩ := Z.du_drawers
  have c_names_of : Cal P w K mg base "names_of" 1 ["web"] spNamesOf := ok_names_of Z
  refine ⟨Z.gl_drawers, F.kp, fd, F.ok sc_drawers (fun vs H Q E h => ?_) (fun cdv A outer s H vs Q E hr h => ?_), FunD.bindsN F fun _ _ _ _ _ _ us hl => match us, hl with | [_], _ => rfl⟩
  · obtain ⟨v, d, rfl, _⟩ := h
    rfl
  · obtain ⟨v, d, rfl, hw, hsm, hwf, k⟩ := h
    have hu := hu_of hr
    have hw0 := hw
    obtain ⟨t, ra, la, ka, oa, rfl, hT, hrows, _⟩ := hw
    refine ⟨_, PSs.nox (pss_cons (ps_set (i := 1) sc_drawers.nd rfl (Or.inl rfl) pe_dnewT)
      (pss_cons (ps_for PassesOwn.never rfl (pi_list (pe_cal c_names_of (hr.mono (by decide)) (by rfl) (pa_cons (pv 0) pa_nil))) (pg_name (i := 2) sc_drawers.nd rfl (Or.inl rfl)) (pss_one (ps_dput hu (pv 1) (pv 2) (pe_lst pa_nil) rfl)))
      (pss_cons (ps_for PassesOwn.never rfl (pi_list (pe_cal c_names_of (hr.mono (by decide)) (by rfl) (pa_cons (pv 0) pa_nil))) (pg_name (i := 2) sc_drawers.nd rfl (Or.inl rfl)) (pss_one (ps_for PassesOwn.never rfl (pi_tup (pe_ix ix_tup (pe_ix ix_list (pe_ix ix_list (pe_ix ix_tup (pv 0) pe_int (fun _ _ => rfl)) (pe_ix ix_tup (pv 2) pe_int (fun _ _ => rfl)) (fun _ _ => rfl)) (pe_ix ix_tup (pv 2) pe_int (fun _ _ => rfl)) (fun _ _ => rfl)) pe_int (fun _ _ => rfl))) (pg_name (i := 3) sc_drawers.nd rfl (Or.inl rfl)) (pss_one (ps_expr (pe_bm PySem.F.plainAttrs_list PySem.F.slot_list_append PySem.F.type_list_append mt_append (pe_dget hu (pv 1) (pv 3) (fun _ _ => rfl)) (pa_cons (pv 2) pa_nil)))))))
      (pss_one (ps_ret (pv 1)))))), ?_⟩
    -- found = {}
    intro D hD
    -- for name in names_of(web)
    refine ⟨_, rfl, _, d, rfl, hw0.mono (sm_new hD), hsm, fun H1 nl hS1 hnl hN1 => ?_⟩
    obtain ⟨nvs, hn1, hn2⟩ := hN1
    have hS01 : Same H H1 := (sm_new hD).trans hS1
    have hD1 : H1 D = some (.dT []) := hS1 _ _ upd_same
    have hnd := nodup_names d.rows
    have nlen := hsm.nm
    have nlD : nl ≠ D := fun e => by rw [e, upd_same] at hnl; cases hnl
    have hG : Same H (msk [D] H1) := msk_into hS01 fun a ha => by rw [List.mem_singleton.mp ha]; exact hD
    have gn : (msk [D] H1) nl = some (.lst nvs) := by rw [msk_out (by simpa using nlD)]; exact hn1
    have gA : All2 (NmR (msk [D] H1)) nvs (names d.rows) := hn2.mono fun v x => NmR.out fun a ha xs => by rw [List.mem_singleton.mp ha, hD1]; intro e; cases e
    have lenE : ∀ {i : Nat} {nm : Name} (j : Nat), (names d.rows)[i]? = some nm → (eNames d.rows ((names d.rows).take i) ++ ((par d.rows nm).take j).map fun q => (q, nm)).length ≤ 100000 := fun {i nm} j e => by
      refine Nat.le_trans (Nat.le_trans ?_ hsm.ed) (by decide)
      have e1 : names d.rows = (names d.rows).take i ++ [nm] ++ (names d.rows).drop (i + 1) := by rw [← take_snoc e, List.take_append_drop]
      conv => rhs; rw [e1]
      rw [eNames_append, eNames_append, eNames_one, List.length_append, List.length_append, List.length_append, List.length_map, List.length_map, List.length_take]
      omega
    refine ⟨nl, rfl, ⟨_, SqL.of hn1⟩, for_list (K := K) (a := nl) (xs := nvs) (fun i σ H' => ∃ (b : Option V) (al : Name → Addr), σ = [some (.ref t), some (.ref D), b, none] ∧
        DLst (msk [D] H1) H' D ((names d.rows).take i) al (drw [])) ?_ ?_ ?_ ?_⟩
    · exact ⟨none, fun _ => 0, rfl, by rw [List.take_zero]; exact .init hD1 (Same.refl _)⟩
    · rintro i σ H' hi ⟨b, al, rfl, hd⟩
      exact SqL.of ((hd.st.trans msk_same) _ _ gn)
    · rintro i x σ H' hx ⟨b, al, rfl, hd⟩
      obtain ⟨n, en, tn, rfl, htn⟩ := gA.getV hx
      have htn' := (hd.st.trans msk_same) _ _ htn
      -- found[name] = []
      refine ⟨Nat.zero_le _, fun p hp => ?_⟩
      refine ⟨_, rfl, _, rfl, D, _, rfl, DPut.t (k := keyN n) (sm_new hp _ _ hd.dc) (sm_new hp _ _ htn') (by rw [dcl_length, List.length_take]; exact szt (by omega)), _, (fun m => if m = n then p else al m), rfl, ?_⟩
      rw [take_snoc en]
      exact hd.add (notin_take hnd en) hp (Same.refl _) rfl
    · rintro σ H2 ⟨b, al, rfl, hd⟩
      rw [List.take_of_length_le (by rw [hn2.1]; exact Nat.le_refl _)] at hd
      have hS2 : Same H H2 := (hG.trans hd.st).trans msk_same
      -- for name in names_of(web)
      refine ⟨_, rfl, _, d, rfl, hw0.mono hS2, hsm, fun H3 nm hS3 hnm hN3 => ?_⟩
      obtain ⟨mvs, hm1, hm2⟩ := hN3
      have hd3 := hd.ext hS3
      have nmM : nm ∉ D :: (names d.rows).map al := fun hm => by
        rcases List.mem_cons.mp hm with e | e
        · rw [e, hd.dc] at hnm; cases hnm
        · obtain ⟨n, hn, e⟩ := List.mem_map.mp e
          obtain ⟨vs, h1, _⟩ := hd.ls n hn
          rw [e, hnm] at h1; cases h1
      have gm : (msk (D :: (names d.rows).map al) H3) nm = some (.lst mvs) := by rw [msk_out nmM]; exact hm1
      have gB : All2 (NmR (msk (D :: (names d.rows).map al) H3)) mvs (names d.rows) := hm2.mono fun v x => NmR.out hd3.notup
      have hG3 : Same H (msk (D :: (names d.rows).map al) H3) := (hG.trans hd.st).trans (msk_mono hS3)
      refine ⟨nm, rfl, ⟨_, SqL.of hm1⟩, for_list (K := K) (a := nm) (xs := mvs) (fun i σ H' => ∃ (b e : Option V), σ = [some (.ref t), some (.ref D), b, e] ∧
          DLst (msk (D :: (names d.rows).map al) H3) H' D (names d.rows) al (drw (eNames d.rows ((names d.rows).take i)))) ?_ ?_ ?_ ?_⟩
      · exact ⟨b, none, rfl, Same.refl _, hd3.dc, hd3.ls, hd3.inj⟩
      · rintro i σ H' hi ⟨b, e, rfl, hd⟩
        exact SqL.of ((hd.st.trans msk_same) _ _ gm)
      · rintro i x σ H' hx ⟨b, e, rfl, hd'⟩
        obtain ⟨n, en, tn, rfl, htn⟩ := gB.getV hx
        have hS4 := hd'.st.trans (msk_same (H := H'))
        have htn' := hS4 _ _ htn
        obtain ⟨rvs, r, rws, lt, pt, pvs, sd, lf, q1, q2, q3, q4, q5, q6, q7⟩ := rows_at (hrows.mono hG3) (List.mem_of_getElem? en)
        have q7' : All2 (NmR H') pvs (par d.rows n) := q7.mono fun v x => NmR.mono hS4
        -- for parent in web[0][name[0]][name[1]][0]
        refine ⟨_, rfl, t, _, 0, _, rfl, rfl, SqT.of (hS4 _ _ (hG3 _ _ hT)), rfl, _, rfl, tn, _, 0, _, rfl, rfl, SqT.of htn', rfl, ra, rvs, _, _, rfl, rfl, SqL.of (hS4 _ _ q1), atI_nat q2,
          _, rfl, tn, _, 1, _, rfl, rfl, SqT.of htn', rfl, r, rws, _, _, rfl, rfl, SqL.of (hS4 _ _ q3), atI_nat q4, lt, _, 0, _, rfl, rfl, SqT.of (hS4 _ _ q5), rfl, pt, rfl, ⟨_, SqT.of (hS4 _ _ q6)⟩,
          for_tup (K := K) (a := pt) (xs := pvs) (fun j σ H5 => ∃ e : Option V, σ = [some (.ref t), some (.ref D), some (.ref tn), e] ∧
            DLst (msk (D :: (names d.rows).map al) H3) H5 D (names d.rows) al (drw (eNames d.rows ((names d.rows).take i) ++ ((par d.rows n).take j).map fun q => (q, n)))) ?_ ?_ ?_ ?_⟩
        · exact ⟨e, rfl, by simpa using hd'⟩
        · rintro j σ H5 hj ⟨e, rfl, h5⟩
          exact SqT.of ((h5.st.trans msk_same) _ _ q6)
        · rintro j y σ H5 hy ⟨e, rfl, h5⟩
          obtain ⟨p, ep, tp, rfl, htp⟩ := q7.getV hy
          have hS5 := h5.st.trans (msk_same (H := H5))
          have hpn : p ∈ names d.rows := (hwf n (List.mem_of_getElem? en) p (List.mem_of_getElem? ep)).2
          obtain ⟨vs, l1, l2⟩ := h5.ls p hpn
          -- found[parent].append(name)
          refine ⟨_, rfl, _, rfl, D, _, rfl, h5.get hpn (hS5 _ _ htp), .inl ⟨rfl, _, SqL.of l1⟩, _, rfl, al p, vs, _, rfl, rfl, l1, szt (Nat.le_trans (by rw [l2.1]; exact drw_le _ _) (lenE j en)), _, rfl, ?_⟩
          have h6 := h5.app hpn ⟨tn, rfl, h5.st _ _ htn⟩ l1
          refine h6.congr fun m hm => ?_
          rw [take_snoc ep, List.map_append, ← List.append_assoc]
          show _ = drw (_ ++ [(p, n)]) m
          rw [drw_snoc]
          by_cases q : m = p
          · rw [if_pos q, if_pos q.symm]
          · rw [if_neg q, if_neg fun z => q z.symm]
        · rintro σ H5 ⟨e, rfl, h5⟩
          refine ⟨_, _, rfl, ?_⟩
          rw [take_snoc en, eNames_append, eNames_one]
          have e5 : (par d.rows n).take pvs.length = par d.rows n := List.take_of_length_le (by rw [q7.1]; exact Nat.le_refl _)
          rw [e5] at h5
          exact h5
      · rintro σ H' ⟨b, e, rfl, hd'⟩
        rw [List.take_of_length_le (by rw [hm2.1]; exact Nat.le_refl _)] at hd'
        exact ⟨_, rfl, k H' D ((hG3.trans hd'.st).trans msk_same) hD hd'.above⟩
end K34
set_option autoImplicit true
set_option Elab.async false
set_option linter.all false
set_option maxRecDepth 100000
set_option maxHeartbeats 4000000
namespace K34
open PySem PySem.Spec PyProof.Rows L2
variable {P : Program} {w : World} {K : PySem.W.Frag} {mg : Str → Option Value} {base : Heap}

/-! ### names under which something stands -/
def insK (ks : List Name) (n : Name) : List Name := if n ∈ ks then ks else ks ++ [n]
def insAll (ks l : List Name) : List Name := l.foldl insK ks
theorem mem_insK {ks : List Name} {n m : Name} : m ∈ insK ks n ↔ m ∈ ks ∨ m = n := by
  unfold insK
  by_cases h : n ∈ ks
  · rw [if_pos h]
    exact ⟨.inl, fun q => q.elim id fun e => by rw [e]; exact h⟩
  · rw [if_neg h, List.mem_append, List.mem_singleton]
theorem len_insK (ks : List Name) (n : Name) : (insK ks n).length ≤ ks.length + 1 := by
  unfold insK
  by_cases h : n ∈ ks
  · rw [if_pos h]; omega
  · rw [if_neg h, List.length_append]; exact Nat.le_refl _
theorem insAll_snoc (ks l : List Name) (n : Name) : insAll ks (l ++ [n]) = insK (insAll ks l) n := by unfold insAll; rw [List.foldl_append]; rfl
theorem mem_insAll {l : List Name} : ∀ {ks : List Name} {m : Name}, m ∈ insAll ks l ↔ m ∈ ks ∨ m ∈ l := by
  induction l with
  | nil => intro ks m; simp [insAll]
  | cons n l ih =>
    intro ks m
    show m ∈ insAll (insK ks n) l ↔ _
    rw [ih, mem_insK, List.mem_cons, or_assoc]
theorem len_insAll {l : List Name} : ∀ (ks : List Name), (insAll ks l).length ≤ ks.length + l.length := by
  induction l with
  | nil => intro ks; exact Nat.le_refl _
  | cons n l ih =>
    intro ks
    refine Nat.le_trans (ih (insK ks n)) ?_
    have := len_insK ks n
    rw [List.length_cons]
    omega
theorem dcl_put {ks : List Name} {f : Name → V} {n : Name} {v : V} : putK (dcl ks f) (keyN n) v = dcl (insK ks n) (fun m => if m = n then v else f m) := by
  unfold insK
  by_cases h : n ∈ ks
  · rw [if_pos h, dcl_putOld h]
  · rw [if_neg h, dcl_putNew h]
/-- a dict at D that is being filled -/
structure DFlg (G0 H : Hp) (D : Addr) (ks : List Name) (f : Name → V) : Prop where
  st : Same G0 (msk [D] H)
  dc : H D = some (.dT (dcl ks f))
section
variable {G0 H H' : Hp} {D b : Addr} {ks : List Name} {f g : Name → V} {n : Name} {v : V}
theorem DFlg.ext (d : DFlg G0 H D ks f) (s : Same H H') : DFlg G0 H' D ks f := ⟨d.st.trans (msk_mono s), s _ _ d.dc⟩
theorem DFlg.congr (d : DFlg G0 H D ks f) (h : ∀ m, m ∈ ks → f m = g m) : DFlg G0 H D ks g := ⟨d.st, by rw [d.dc, dcl_congr h]⟩
theorem DFlg.put (d : DFlg G0 H D ks f) : DFlg G0 (upd H D (.dT (putK (dcl ks f) (keyN n) v))) D (insK ks n) (fun m => if m = n then v else f m) :=
  ⟨by rw [msk_upd (by simp)]; exact d.st, by rw [upd_same, dcl_put]⟩
theorem DFlg.get (d : DFlg G0 H D ks f) (hb : H b = some (.tup [.int n.1, .int n.2])) : DGet H D (.ref b) (if n ∈ ks then some (f n) else none) := dget_n (.inl d.dc) hb
theorem DFlg.dput (d : DFlg G0 H D ks f) (hb : H b = some (.tup [.int n.1, .int n.2])) (hl : ks.length ≤ 100000) : DPut H D (.ref b) v (upd H D (.dT (putK (dcl ks f) (keyN n) v))) :=
  DPut.t (k := keyN n) d.dc hb (by rw [dcl_length]; exact szt hl)
theorem DFlg.same (d : DFlg G0 H D ks f) : Same G0 H := d.st.trans msk_same
end
abbrev tru : Name → V := fun _ => .bl true
theorem DFlg.putT {G0 H : Hp} {D : Addr} {ks : List Name} {n : Name} (d : DFlg G0 H D ks tru) : DFlg G0 (upd H D (.dT (putK (dcl ks tru) (keyN n) (.bl true)))) D (insK ks n) tru :=
  d.put.congr fun m _ => by by_cases q : m = n <;> simp [q]
/-- a dict that tells True of just the names l -/
def FlagR (H : Hp) (a : Addr) (l : List Name) : Prop := ∃ ks, Rd H a (.dT (dcl ks tru)) ∧ ∀ n, n ∈ ks ↔ n ∈ l
theorem FlagR.mono {H H' : Hp} {a : Addr} {l : List Name} (s : Same H H') (h : FlagR H a l) : FlagR H' a l := let ⟨ks, h1, h2⟩ := h; ⟨ks, rd_mono s h1, h2⟩
theorem FlagR.get {H : Hp} {a b : Addr} {l : List Name} {n : Name} (h : FlagR H a l) (hb : H b = some (.tup [.int n.1, .int n.2])) : ∃ o, DGet H a (.ref b) o ∧ o.isSome = decide (n ∈ l) := by
  obtain ⟨ks, h1, h2⟩ := h
  refine ⟨_, dget_n h1 hb, ?_⟩
  by_cases q : n ∈ l
  · rw [if_pos ((h2 n).mpr q), decide_eq_true q]; rfl
  · rw [if_neg fun z => q ((h2 n).mp z), decide_eq_false q]; rfl

/-! ### held -/
def spHeld : Sp := fun vs H Q _ => ∃ (v : V) (d : WebD), vs = [v] ∧ WebR H v d ∧ Small d ∧ ∀ H' a, Same H H' → H a = none → FlagR H' a (heldL d) → Q (.ref a) H'
theorem sc_held : FnScope ["web", "found", "name", "keeper", "names"] ["web"] (defScope s_held) := ⟨rfl, rfl, rfl, by decide +kernel, rfl, by decide +kernel, by decide +kernel⟩
theorem ok_held (Z : Zt K mg) : Cal P w K mg base "held" 1 ["web"] spHeld := by
  obtain ⟨fd, F⟩ := Z.du_held
  refine ⟨Z.gl_held, F.kp, fd, F.ok sc_held (fun vs H Q E h => ?_) (fun cdv A outer s H vs Q E hr h => ?_), FunD.bindsN F fun _ _ _ _ _ _ us hl => match us, hl with | [_], _ => rfl⟩
  · obtain ⟨v, d, rfl, _⟩ := h
    rfl
  · obtain ⟨v, d, rfl, hw, hsm, k⟩ := h
    have hu := hu_of hr
    obtain ⟨t, ra, la, ka, oa, rfl, hT, hrows, ⟨lvs, hl, hlA⟩, ⟨kvs, hk, hkA⟩, ⟨ovs, ho, hoA⟩⟩ := hw
    refine ⟨_, PSs.nox (pss_cons (ps_set (i := 1) sc_held.nd rfl (Or.inl rfl) pe_dnewT)
      (pss_cons (ps_for PassesOwn.never rfl (pi_list (pe_op op_cat (pe_ix ix_tup (pv 0) pe_int (fun _ _ => rfl)) (pe_ix ix_tup (pv 0) pe_int (fun _ _ => rfl)))) (pg_name (i := 2) sc_held.nd rfl (Or.inl rfl)) (pss_one (ps_dput hu (pv 1) (pv 2) pe_bl rfl)))
      (pss_cons (ps_for PassesOwn.never rfl (pi_list (pe_ix ix_tup (pv 0) pe_int (fun _ _ => rfl))) (pg_tup (by rfl) (pgs_cons (pg_name (i := 3) sc_held.nd rfl (Or.inl rfl)) (pgs_cons (pg_name (i := 4) sc_held.nd rfl (Or.inl rfl)) pgs_nil))) (pss_one (ps_for PassesOwn.never rfl (pi_list (pv 4)) (pg_name (i := 2) sc_held.nd rfl (Or.inl rfl)) (pss_one (ps_dput hu (pv 1) (pv 2) pe_bl rfl)))))
      (pss_one (ps_ret (pv 1)))))), ?_⟩
    intro D hD
    have s1 := sm_new (o := .dT []) hD
    have z1 := hsm.ly
    have z2 := hsm.off
    have z3 := hsm.kp
    -- for name in web[1] + web[3]
    refine ⟨_, rfl, t, _, 1, _, rfl, rfl, SqT.of (s1 _ _ hT), rfl, _, rfl, t, _, 3, _, rfl, rfl, SqT.of (s1 _ _ hT), rfl, la, oa, lvs, ovs, rfl, rfl, s1 _ _ hl, s1 _ _ ho, szl (by rw [hlA.1, hoA.1]; omega), fun p hp => ?_⟩
    have hpD : p ≠ D := fun e => by rw [e, upd_same] at hp; cases hp
    have hG : Same H (msk [D] (upd (upd H D (.dT [])) p (.lst (lvs ++ ovs)))) := msk_into (s1.trans (sm_new hp)) fun a ha => by rw [List.mem_singleton.mp ha]; exact hD
    have gp : (msk [D] (upd (upd H D (.dT [])) p (.lst (lvs ++ ovs)))) p = some (.lst (lvs ++ ovs)) := by rw [msk_out (by simpa using hpD)]; exact upd_same
    have gA := (hlA.append hoA).mono fun v x => NmR.mono hG
    revert hG gp gA
    generalize hG0 : msk [D] (upd (upd H D (.dT [])) p (.lst (lvs ++ ovs))) = G0
    intro hG gp gA
    have hlen : ∀ l r : List Name, heldL d = l ++ r → (insAll [] l).length ≤ 100000 := fun l r e => by
      have e1 := congrArg List.length e
      have e2 := len_insAll (l := l) []
      unfold heldL at e1
      simp only [List.length_append, List.length_nil] at e1 e2
      omega
    refine ⟨p, rfl, ⟨_, SqL.of upd_same⟩, for_list (K := K) (a := p) (xs := lvs ++ ovs) (fun i σ H' => ∃ b : Option V, σ = [some (.ref t), some (.ref D), b, none, none] ∧ DFlg G0 H' D (insAll [] ((d.ly ++ d.off).take i)) tru) ?_ ?_ ?_ ?_⟩
    · refine ⟨none, rfl, by rw [hG0]; exact Same.refl _, ?_⟩
      rw [upd_ne hpD.symm, upd_same]
      rfl
    · rintro i σ H' hi ⟨b, rfl, hd⟩
      exact SqL.of (hd.same _ _ gp)
    · rintro i x σ H' hx ⟨b, rfl, hd⟩
      obtain ⟨n, en, tn, rfl, htn⟩ := gA.getV hx
      refine ⟨_, rfl, _, rfl, D, _, rfl, hd.dput (n := n) (hd.same _ _ htn) (hlen _ ((d.ly ++ d.off).drop i ++ kpAll d) (by unfold heldL; rw [← List.append_assoc, List.take_append_drop])), _, rfl, ?_⟩
      rw [take_snoc en, insAll_snoc]
      exact hd.putT
    · rintro σ H1 ⟨b, rfl, hd⟩
      have e0 : (d.ly ++ d.off).take (lvs ++ ovs).length = d.ly ++ d.off := List.take_of_length_le (by rw [gA.1]; exact Nat.le_refl _)
      rw [e0] at hd
      have kA := hkA.mono fun v x => KeptR.mono hG
      -- for keeper, names in web[2]
      refine ⟨_, rfl, t, _, 2, _, rfl, rfl, SqT.of (hd.same _ _ (hG _ _ hT)), rfl, ka, rfl, ⟨_, SqL.of (hd.same _ _ (hG _ _ hk))⟩,
        for_list (K := K) (a := ka) (xs := kvs) (fun i σ H' => ∃ b1 b2 b3 : Option V, σ = [some (.ref t), some (.ref D), b1, b2, b3] ∧ DFlg G0 H' D (insAll [] (d.ly ++ d.off ++ (d.kp.take i).flatMap fun q => q.2)) tru) ?_ ?_ ?_ ?_⟩
      · exact ⟨b, none, none, rfl, by simpa using hd⟩
      · rintro i σ H' hi ⟨b1, b2, b3, rfl, hd⟩
        exact SqL.of (hd.same _ _ (hG _ _ hk))
      · rintro i x σ H' hx ⟨b1, b2, b3, rfl, hd⟩
        obtain ⟨q, eq, tq, a, rfl, htq, ns, hns, hnA⟩ := kA.getV hx
        -- for name in names
        refine ⟨tq, _, rfl, SqT.of (hd.same _ _ htq), rfl, _, _, rfl, _, _, rfl, rfl, ?_⟩
        have ekp : d.kp = d.kp.take i ++ q :: d.kp.drop (i + 1) := by
          have := List.take_append_drop (i + 1) d.kp
          rw [take_snoc eq] at this
          simpa using this.symm
        have ekq : kpAll d = (d.kp.take i).flatMap (fun q => q.2) ++ q.2 ++ (d.kp.drop (i + 1)).flatMap (fun q => q.2) := by
          unfold kpAll
          conv => lhs; rw [ekp]
          rw [List.flatMap_append, List.flatMap_cons, List.append_assoc]
        refine ⟨_, rfl, a, rfl, ⟨_, SqL.of (hd.same _ _ hns)⟩,
          for_list (K := K) (a := a) (xs := ns) (fun j σ H' => ∃ b1 : Option V, σ = [some (.ref t), some (.ref D), b1, some (.str q.1.str), some (.ref a)] ∧
            DFlg G0 H' D (insAll [] (d.ly ++ d.off ++ (d.kp.take i).flatMap (fun q => q.2) ++ q.2.take j)) tru) ?_ ?_ ?_ ?_⟩
        · exact ⟨b1, rfl, by simpa using hd⟩
        · rintro j σ H2 hj ⟨b1, rfl, h2⟩
          exact SqL.of (h2.same _ _ hns)
        · rintro j y σ H2 hy ⟨b1, rfl, h2⟩
          obtain ⟨n, en, tn, rfl, htn⟩ := hnA.getV hy
          refine ⟨_, rfl, _, rfl, D, _, rfl, h2.dput (n := n) (h2.same _ _ htn) (hlen _ (q.2.drop j ++ (d.kp.drop (i + 1)).flatMap fun q => q.2) ?_), _, rfl, ?_⟩
          · unfold heldL
            rw [ekq]
            simp only [List.append_assoc]
            rw [← List.append_assoc (q.2.take j), List.take_append_drop]
          · rw [take_snoc en, ← List.append_assoc, insAll_snoc]
            exact h2.putT
        · rintro σ H2 ⟨b1, rfl, h2⟩
          have e2 : q.2.take ns.length = q.2 := List.take_of_length_le (by rw [hnA.1]; exact Nat.le_refl _)
          rw [e2] at h2
          refine ⟨_, _, _, rfl, ?_⟩
          rw [take_snoc eq, List.flatMap_append, ← List.append_assoc]
          simpa using h2
      · rintro σ H2 ⟨b1, b2, b3, rfl, hd⟩
        have e2 : d.kp.take kvs.length = d.kp := List.take_of_length_le (by rw [hkA.1]; exact Nat.le_refl _)
        rw [e2] at hd
        refine ⟨_, rfl, k H2 D (hG.trans hd.same) hD ⟨_, .inl hd.dc, fun n => ?_⟩⟩
        rw [mem_insAll]
        exact ⟨fun h => h.resolve_left (by simp), .inr⟩

/-! ### loosened -/
def spLoosened : Sp := fun vs H Q _ => ∃ (v : V) (d : WebD) (na : Addr) (ns : List Name), vs = [v, .ref na] ∧ WebR H v d ∧ Small d ∧ NmsL H na ns ∧ (∀ n, n ∈ ns → n ∈ d.ly) ∧ ns.length ≤ 30000 ∧
  ∀ H' a, Same H H' → H a = none → FlagR H' a ns → Q (.ref a) H'
theorem sc_loosened : FnScope ["web", "names", "lying", "name", "found"] ["web", "names"] (defScope s_loosened) := ⟨rfl, rfl, rfl, by decide +kernel, rfl, by decide +kernel, by decide +kernel⟩
theorem ok_loosened (Z : Zt K mg) : Cal P w K mg base "loosened" 1 ["web", "names"] spLoosened := by
  obtain ⟨fd, F⟩ := Z.du_loosened
  refine ⟨Z.gl_loosened, F.kp, fd, F.ok sc_loosened (fun vs H Q E h => ?_) (fun cdv A outer s H vs Q E hr h => ?_), FunD.bindsN F fun _ _ _ _ _ _ us hl => match us, hl with | [_, _], _ => rfl⟩
  · obtain ⟨v, d, na, ns, rfl, _⟩ := h
    rfl
  · obtain ⟨v, d, na, ns, rfl, hw, hsm, ⟨nvs, hn, hnA⟩, hsub, hnl, k⟩ := h
    have hu := hu_of hr
    obtain ⟨t, ra, la, ka, oa, rfl, hT, hrows, ⟨lvs, hl, hlA⟩, _⟩ := hw
    refine ⟨_, PSs.nox (pss_cons (ps_set (i := 2) sc_loosened.nd rfl (Or.inl rfl) pe_dnewT)
      (pss_cons (ps_for PassesOwn.never rfl (pi_list (pe_ix ix_tup (pv 0) pe_int (fun _ _ => rfl))) (pg_name (i := 3) sc_loosened.nd rfl (Or.inl rfl)) (pss_one (ps_dput hu (pv 2) (pv 3) pe_bl rfl)))
      (pss_cons (ps_set (i := 4) sc_loosened.nd rfl (Or.inl rfl) pe_dnewT)
      (pss_cons (ps_for PassesOwn.never rfl (pi_list (pv 1)) (pg_name (i := 3) sc_loosened.nd rfl (Or.inl rfl)) (pss_cons (ps_if (pt_cmp (pc_dnotin hu (pv 3) (pv 2))) (pss_one ps_never) pss_nil)
      (pss_one (ps_dput hu (pv 4) (pv 3) pe_bl rfl))))
      (pss_one (ps_ret (pv 4))))))), ?_⟩
    intro L hL
    have s1 := sm_new (o := .dT []) hL
    have z1 := hsm.ly
    have hG : Same H (msk [L] (upd H L (.dT []))) := msk_into s1 fun a ha => by rw [List.mem_singleton.mp ha]; exact hL
    have hlen : ∀ (l : List Name) (i : Nat), l.length ≤ 30000 → (insAll [] (l.take i)).length ≤ 100000 := fun l i e => by
      have e2 := len_insAll (l := l.take i) []
      simp only [List.length_nil, List.length_take] at e2
      omega
    -- for name in web[1]
    refine ⟨_, rfl, t, _, 1, _, rfl, rfl, SqT.of (s1 _ _ hT), rfl, la, rfl, ⟨_, SqL.of (s1 _ _ hl)⟩,
      for_list (K := K) (a := la) (xs := lvs) (fun i σ H' => ∃ b : Option V, σ = [some (.ref t), some (.ref na), some (.ref L), b, none] ∧ DFlg H H' L (insAll [] (d.ly.take i)) tru) ?_ ?_ ?_ ?_⟩
    · exact ⟨none, rfl, hG, upd_same⟩
    · rintro i σ H' hi ⟨b, rfl, hd⟩
      exact SqL.of (hd.same _ _ hl)
    · rintro i x σ H' hx ⟨b, rfl, hd⟩
      obtain ⟨n, en, tn, rfl, htn⟩ := hlA.getV hx
      refine ⟨_, rfl, _, rfl, L, _, rfl, hd.dput (n := n) (hd.same _ _ htn) (hlen _ _ z1), _, rfl, ?_⟩
      rw [take_snoc en, insAll_snoc]
      exact hd.putT
    · rintro σ H1 ⟨b, rfl, hd⟩
      have e0 : d.ly.take lvs.length = d.ly := List.take_of_length_le (by rw [hlA.1]; exact Nat.le_refl _)
      rw [e0] at hd
      -- found = {}
      intro D hD
      have hd2 := hd.ext (sm_new (o := .dT []) hD)
      have hG2 : Same H1 (msk [D] (upd H1 D (.dT []))) := msk_into (sm_new hD) fun a ha => by rw [List.mem_singleton.mp ha]; exact hD
      have hfl : FlagR H1 L d.ly := ⟨_, .inl hd.dc, fun n => by rw [mem_insAll]; exact ⟨fun h => h.resolve_left (by simp), .inr⟩⟩
      -- for name in names
      refine ⟨_, rfl, na, rfl, ⟨_, SqL.of (hd2.same _ _ hn)⟩,
        for_list (K := K) (a := na) (xs := nvs) (fun i σ H' => ∃ b : Option V, σ = [some (.ref t), some (.ref na), some (.ref L), b, some (.ref D)] ∧ DFlg H1 H' D (insAll [] (ns.take i)) tru) ?_ ?_ ?_ ?_⟩
      · exact ⟨b, rfl, hG2, upd_same⟩
      · rintro i σ H' hi ⟨b, rfl, h2⟩
        exact SqL.of (h2.same _ _ (hd.same _ _ hn))
      · rintro i x σ H' hx ⟨b, rfl, h2⟩
        obtain ⟨n, en, tn, rfl, htn⟩ := hnA.getV hx
        have htn' := h2.same _ _ (hd.same _ _ htn)
        obtain ⟨o, g1, g2⟩ := (hfl.mono h2.same).get (n := n) htn'
        refine ⟨_, rfl, _, rfl, L, o, rfl, g1, _, rfl, ?_⟩
        rw [g2, decide_eq_true (hsub n (List.mem_of_getElem? en))]
        refine iteF ?_
        refine ⟨_, rfl, _, rfl, D, _, rfl, h2.dput (n := n) htn' (hlen _ _ hnl), _, rfl, ?_⟩
        rw [take_snoc en, insAll_snoc]
        exact h2.putT
      · rintro σ H2 ⟨b, rfl, h2⟩
        have e2 : ns.take nvs.length = ns := List.take_of_length_le (by rw [hnA.1]; exact Nat.le_refl _)
        rw [e2] at h2
        refine ⟨_, rfl, k H2 D (hd.same.trans h2.same) (hd.same.free hD) ⟨_, .inl h2.dc, fun n => ?_⟩⟩
        rw [mem_insAll]
        exact ⟨fun h => h.resolve_left (by simp), .inr⟩

/-! ### fallen -/
/-- what comes undone where ns are let fall -/
def goneD (d : WebD) (ns : List Name) : List Name := gone d.rows (fun n => n ∈ ns) (fun n => n ∈ heldL d)
def spFallen : Sp := fun vs H Q _ => ∃ (v : V) (d : WebD) (na : Addr) (ns : List Name), vs = [v, .ref na] ∧ WebR H v d ∧ Small d ∧ Wf d.rows ∧ NmsL H na ns ∧ (∀ n, n ∈ ns → n ∈ d.ly) ∧ ns.length ≤ 30000 ∧
  ∀ H' a, Same H H' → H a = none → FlagR H' a (goneD d ns) → Q (.ref a) H'
theorem fl_len {rows : Rows} {loose ends : Name → Prop} [DecidablePred loose] [DecidablePred ends] (l : List Name) : (fl rows loose ends l).length ≤ l.length := by
  induction l using snoc_ind with
  | h0 => exact Nat.le_refl _
  | hs l n ih =>
    rw [fl_snoc, List.length_append]
    unfold flStep
    by_cases h1 : loose n
    · rw [if_pos h1, List.length_append]
      exact Nat.add_le_add_right ih _
    · rw [if_neg h1]
      by_cases h2 : ¬ ends n ∧ ∀ d ∈ abv rows n, d ∈ fl rows loose ends l
      · rw [if_pos h2, List.length_append]
        exact Nat.add_le_add_right ih _
      · rw [if_neg h2]
        exact Nat.le_trans ih (Nat.le_add_right _ _)
theorem all_dec {l F : List Name} : ((l.map fun m => decide (m ∈ F)).all id) = decide (∀ m, m ∈ l → m ∈ F) := by
  rw [Bool.eq_iff_iff]
  simp
theorem abv_le (rows : Rows) (n : Name) : (abv rows n).length ≤ (eNames rows (names rows)).length := drw_le _ _
theorem sc_fallen : FnScope ["web", "names", "loose", "above", "ends", "found", "name", "drawer"] ["web", "names"] (defScope s_fallen) := ⟨rfl, rfl, rfl, by decide +kernel, rfl, by decide +kernel, by decide +kernel⟩
theorem ok_fallen (Z : Zt K mg) : Cal P w K mg base "fallen" 3 ["web", "names"] spFallen := by
  obtain ⟨fd, F⟩ := Z.du_fallen
  have c_names_of : Cal P w K mg base "names_of" 1 ["web"] spNamesOf := ok_names_of Z
  have c_loosened : Cal P w K mg base "loosened" 1 ["web", "names"] spLoosened := ok_loosened Z
  have c_drawers : Cal P w K mg base "drawers" 2 ["web"] spDrawers := ok_drawers Z
  have c_held : Cal P w K mg base "held" 1 ["web"] spHeld := ok_held Z
  refine ⟨Z.gl_fallen, F.kp, fd, F.ok sc_fallen (fun vs H Q E h => ?_) (fun cdv A outer s H vs Q E hr h => ?_), FunD.bindsN F fun _ _ _ _ _ _ us hl => match us, hl with | [_, _], _ => rfl⟩
  · obtain ⟨v, d, na, ns, rfl, _⟩ := h
    rfl
  · obtain ⟨v, d, na, ns, rfl, hw, hsm, hwf, hN, hsub, hnl, k⟩ := h
    have hu := hu_of hr
    have z1 := hsm.ed
    have z2 := hsm.nm
    refine ⟨_, PSs.nox (pss_cons (ps_set (i := 2) sc_fallen.nd rfl (Or.inl rfl) (pe_cal c_loosened (hr.mono (by decide)) (by rfl) (pa_cons (pv 0) (pa_cons (pv 1) pa_nil))))
      (pss_cons (ps_set (i := 3) sc_fallen.nd rfl (Or.inl rfl) (pe_cal c_drawers (hr.mono (by decide)) (by rfl) (pa_cons (pv 0) pa_nil)))
      (pss_cons (ps_set (i := 4) sc_fallen.nd rfl (Or.inl rfl) (pe_cal c_held (hr.mono (by decide)) (by rfl) (pa_cons (pv 0) pa_nil)))
      (pss_cons (ps_set (i := 5) sc_fallen.nd rfl (Or.inr rfl) pe_dnewT)
      (pss_cons (ps_for PassesOwn.never rfl (RT.pi_revA (by rfl) Z.fr_reversed (pe_cal c_names_of (hr.mono (by decide)) (by rfl) (pa_cons (pv 0) pa_nil))) (pg_name (i := 6) sc_fallen.nd rfl (Or.inl rfl)) (pss_one (ps_if (pt_cmp (pc_din hu (pv 6) (pv 2))) (pss_one (ps_dput hu (pv 5) (pv 6) pe_bl rfl)) (pss_one (ps_if (PW.pt (pw_and (pt_cmp (pc_dnotin hu (pv 6) (pv 4))) (pw_and1 (pt_val (pe_callB (cr_all rfl) (by rfl) Z.fr_all (by decide +kernel) (pa_cons (pe_lc (own := [("drawer", 7)]) (by rfl) sc_fallen.nd (pi_list (pe_dget hu (pv 3) (pv 6) (fun _ _ => rfl))) (blkOk_by (own := [("drawer", 7)]) (N := ["web", "names", "loose", "above", "ends", "found", "name", "drawer"]) (sc := defScope s_fallen) (by decide +kernel)) (fun _ _ _ _ _ => (pg_name (i := 7) sc_fallen.nd rfl (Or.inl rfl) (Or.inr rfl))) (fun _ _ _ _ _ => pts_nil) (fun _ _ _ _ _ => (pe_cmp (pc_din hu (pv 7) (pv 5))))) pa_nil)))))) (pss_one (ps_dput hu (pv 5) (pv 6) pe_bl rfl)) pss_nil)))))
      (pss_one (ps_ret (pv 5)))))))), ?_⟩
    -- loose, above, ends
    refine ⟨_, rfl, _, rfl, v, d, na, ns, rfl, hw, hsm, hN, hsub, hnl, fun H1 lo s1 f1 hlo => ?_⟩
    refine ⟨_, rfl, v, d, rfl, hw.mono s1, hsm, hwf, fun H2 ab s2 f2 hab => ?_⟩
    refine ⟨_, rfl, v, d, rfl, (hw.mono s1).mono s2, hsm, fun H3 en s3 f3 hen => ?_⟩
    -- found = {}
    intro D hD
    have s03 := (s1.trans s2).trans s3
    -- for name in reversed(names_of(web))
    refine ⟨_, rfl, v, d, rfl, (hw.mono s03).mono (sm_new hD), hsm, fun H4 nl s4 f4 hnm => ?_⟩
    obtain ⟨nvs, hn, hnA⟩ := hnm
    have hD4 : H4 D = some (.dT []) := s4 _ _ upd_same
    have nlD : nl ≠ D := fun e => by rw [e, hD4] at hn; cases hn
    have hG : Same H3 (msk [D] H4) := msk_into ((sm_new hD).trans s4) fun a ha => by rw [List.mem_singleton.mp ha]; exact hD
    have gn : (msk [D] H4) nl = some (.lst nvs) := by rw [msk_out (by simpa using nlD)]; exact hn
    have gA : All2 (NmR (msk [D] H4)) nvs (names d.rows) := hnA.mono fun v x => NmR.out fun a ha xs => by rw [List.mem_singleton.mp ha, hD4]; intro e; cases e
    have hlo' : FlagR (msk [D] H4) lo ns := ((hlo.mono s2).mono s3).mono hG
    have hab' : AboveR (msk [D] H4) ab d.rows := (hab.mono s3).mono hG
    have hen' : FlagR (msk [D] H4) en (heldL d) := hen.mono hG
    have hnd : (names d.rows).reverse.Nodup := (List.reverse_perm _).nodup_iff.mpr (nodup_names _)
    have hlen : ∀ i, (fl d.rows (fun n => n ∈ ns) (fun n => n ∈ heldL d) ((names d.rows).reverse.take i)).length ≤ 100000 := fun i => by
      refine Nat.le_trans (fl_len _) ?_
      rw [List.length_take, List.length_reverse]
      omega
    refine ⟨nl, nvs, rfl, .inl ⟨SqL.of hn, RT.for_Itv (K := K) (a := nl) (xs := nvs) (fun i σ H' => ∃ b : Option V, σ = [some v, some (.ref na), some (.ref lo), some (.ref ab), some (.ref en), some (.ref D), b, none] ∧
        DFlg (msk [D] H4) H' D (fl d.rows (fun n => n ∈ ns) (fun n => n ∈ heldL d) ((names d.rows).reverse.take i)) tru) ?_ ?_ ?_ ?_⟩⟩
    · exact ⟨none, rfl, Same.refl _, hD4⟩
    · rintro i σ H' ⟨b, rfl, hd⟩
      exact SqL.of (hd.same _ _ gn)
    · rintro i x σ H' hi hx ⟨b, rfl, hd⟩
      obtain ⟨n, en1, tn, rfl, htn⟩ := gA.getV hx
      have htn' := hd.same _ _ htn
      have en2 : (names d.rows).reverse[i]? = some n := by
        rw [List.getElem?_reverse (by rw [← hnA.1]; exact hi), ← hnA.1]
        exact en1
      have nin : n ∉ fl d.rows (fun n => n ∈ ns) (fun n => n ∈ heldL d) ((names d.rows).reverse.take i) := fun h => notin_take hnd en2 (fl_sub _ n h)
      have put : DFlg (msk [D] H4) (upd H' D (.dT (putK (dcl (fl d.rows (fun n => n ∈ ns) (fun n => n ∈ heldL d) ((names d.rows).reverse.take i)) tru) (keyN n) (.bl true)))) D
          (fl d.rows (fun n => n ∈ ns) (fun n => n ∈ heldL d) ((names d.rows).reverse.take i) ++ [n]) tru := by
        have := hd.putT (n := n)
        unfold insK at this
        rw [if_neg nin] at this
        exact this
      have step : fl d.rows (fun n => n ∈ ns) (fun n => n ∈ heldL d) ((names d.rows).reverse.take (i + 1)) = flStep d.rows (fun n => n ∈ ns) (fun n => n ∈ heldL d) (fl d.rows (fun n => n ∈ ns) (fun n => n ∈ heldL d) ((names d.rows).reverse.take i)) n := by
        rw [take_snoc en2, fl_snoc]
      rw [step]
      obtain ⟨o, g1, g2⟩ := (hlo'.mono hd.same).get (n := n) htn'
      -- if name in loose
      refine ⟨_, rfl, _, rfl, lo, o, rfl, g1, _, rfl, ?_⟩
      rw [g2]
      by_cases c1 : n ∈ ns
      · rw [decide_eq_true c1]
        refine iteT ?_
        refine ⟨_, rfl, _, rfl, D, _, rfl, hd.dput (n := n) htn' (hlen i), _, rfl, ?_⟩
        unfold flStep
        rw [if_pos c1]
        exact put
      · rw [decide_eq_false c1]
        refine iteF ?_
        obtain ⟨o2, g3, g4⟩ := (hen'.mono hd.same).get (n := n) htn'
        -- elif name not in ends
        refine ⟨_, rfl, _, rfl, en, o2, rfl, g3, _, rfl, ?_⟩
        rw [g4]
        by_cases c2 : n ∈ heldL d
        · rw [decide_eq_true c2]
          refine iteF (iteF ⟨_, rfl, ?_⟩)
          unfold flStep
          rw [if_neg c1, if_neg fun h => h.1 c2]
          exact hd
        · rw [decide_eq_false c2]
          refine iteT ?_
          -- all([drawer in found for drawer in above[name]])
          obtain ⟨al, hal, halN⟩ := hab'.mono hd.same
          have nn : n ∈ names d.rows := List.mem_of_getElem? en1
          obtain ⟨avs, ha, haA⟩ := halN n nn
          have hga := dget_n (f := fun n => V.ref (al n)) (ns := names d.rows) hal htn'
          rw [if_pos nn] at hga
          refine ⟨_, rfl, _, rfl, ab, _, rfl, hga, al n, rfl, ⟨_, SqL.of ha⟩, fun Dl hDl =>
            lc_list (K := K) (a := al n) (xs := avs) (fun j H5 => Same H' H5 ∧ H5 Dl = some (.lst (((abv d.rows n).take j).map fun m => V.bl (decide (m ∈ fl d.rows (fun n => n ∈ ns) (fun n => n ∈ heldL d) ((names d.rows).reverse.take i)))))) ?_ ?_ ?_ ?_⟩
          · exact ⟨sm_new hDl, upd_same⟩
          · rintro j H5 hj ⟨q1, q2⟩
            exact SqL.of (q1 _ _ ha)
          · rintro j y H5 hy ⟨q1, q2⟩
            obtain ⟨m, em, tm, rfl, htm⟩ := haA.getV hy
            refine ⟨rfl, _, rfl, _, rfl, D, _, rfl, (hd.ext q1).get (n := m) (q1 _ _ htm), _, q2, ?_, ?_, ?_⟩
            · rw [List.length_map, List.length_take]
              have := abv_le d.rows n
              exact szt (by omega)
            · exact sm_upd q1 hDl
            · rw [upd_same, take_snoc em, List.map_append, List.map_cons, List.map_nil]
              congr 4
              by_cases q : m ∈ fl d.rows (fun n => n ∈ ns) (fun n => n ∈ heldL d) ((names d.rows).reverse.take i)
              · rw [if_pos q, decide_eq_true q]; rfl
              · rw [if_neg q, decide_eq_false q]; rfl
          · rintro H5 ⟨q1, q2⟩
            have e5 : (abv d.rows n).take avs.length = abv d.rows n := List.take_of_length_le (by rw [haA.1]; exact Nat.le_refl _)
            rw [e5] at q2
            refine ⟨Dl, (abv d.rows n).map fun m => decide (m ∈ fl d.rows (fun n => n ∈ ns) (fun n => n ∈ heldL d) ((names d.rows).reverse.take i)), rfl, SqL.of (by rw [List.map_map]; exact q2), _, rfl, ?_⟩
            rw [all_dec]
            have hd5 := hd.ext q1
            by_cases c3 : ∀ m, m ∈ abv d.rows n → m ∈ fl d.rows (fun n => n ∈ ns) (fun n => n ∈ heldL d) ((names d.rows).reverse.take i)
            · rw [decide_eq_true c3]
              refine iteT ?_
              have put5 : DFlg (msk [D] H4) (upd H5 D (.dT (putK (dcl (fl d.rows (fun n => n ∈ ns) (fun n => n ∈ heldL d) ((names d.rows).reverse.take i)) tru) (keyN n) (.bl true)))) D
                  (fl d.rows (fun n => n ∈ ns) (fun n => n ∈ heldL d) ((names d.rows).reverse.take i) ++ [n]) tru := by
                have := hd5.putT (n := n)
                unfold insK at this
                rw [if_neg nin] at this
                exact this
              refine ⟨_, rfl, _, rfl, D, _, rfl, hd5.dput (n := n) (q1 _ _ htn') (hlen i), _, rfl, ?_⟩
              unfold flStep
              rw [if_neg c1, if_pos ⟨c2, c3⟩]
              exact put5
            · rw [decide_eq_false c3]
              refine iteF ⟨_, rfl, ?_⟩
              unfold flStep
              rw [if_neg c1, if_neg fun h => c3 h.2]
              exact hd5
    · rintro σ H' ⟨b, rfl, hd⟩
      have e2 : (names d.rows).reverse.take nvs.length = (names d.rows).reverse := List.take_of_length_le (by rw [List.length_reverse, hnA.1]; exact Nat.le_refl _)
      rw [e2] at hd
      exact ⟨_, rfl, k H' D ((s03.trans hG).trans hd.same) (s03.free hD) ⟨_, .inl hd.dc, fun n => Iff.rfl⟩⟩
end K34
set_option autoImplicit true
set_option Elab.async false
set_option linter.all false
set_option maxRecDepth 100000
set_option maxHeartbeats 4000000
namespace K34
open PySem PySem.Spec PyProof.Rows L2
variable {P : Program} {w : World} {K : PySem.W.Frag} {mg : Str → Option Value} {base : Heap}

/-! ### undone -/
theorem toldN_len (rows : Rows) (G : List Name) (k : Nat) : (toldN rows G k).length ≤ (namesN rows k).length := by
  induction k with
  | zero => exact Nat.le_refl _
  | succ k ih =>
    show (_ ++ toldN rows G k).length ≤ (namesN rows k ++ _).length
    rw [List.length_append, List.length_append]
    have := List.length_filter_le (fun n => decide (n ∈ G)) (nmRow k (wid rows k))
    omega
theorem filter_row_le (r : Nat) (f : Name → Bool) {j k : Nat} (h : j ≤ k) : ((nmRow r j).filter f).length ≤ ((nmRow r k).filter f).length := by
  induction h with
  | refl => exact Nat.le_refl _
  | step _ ih =>
    refine Nat.le_trans ih ?_
    rw [nmRow_succ, List.filter_append, List.length_append]
    exact Nat.le_add_right _ _
theorem row_at {H : Hp} {rows : Rows} {rvs : List V} (h : All2 (RowR H) rvs rows) {i : Nat} (hi : i < rows.length) : ∃ r rws, rvs[i]? = some (.ref r) ∧ H r = some (.lst rws) ∧ rws.length = wid rows i := by
  obtain ⟨rv, e1, ⟨r, rws, rfl, hr, hrw⟩⟩ := h.get (List.getElem?_eq_getElem hi)
  refine ⟨r, rws, e1, hr, ?_⟩
  unfold wid
  rw [List.getD_eq_getElem?_getD, List.getElem?_eq_getElem hi, hrw.1]
  rfl
/-- a name made anew -/
theorem newName {H : Hp} {p : Addr} {i j : Nat} {x y : Int} (hx : x = (i : Int)) (hy : y = (j : Int)) : (upd H p (.tup [.int x, .int y])) p = some (.tup [.int ((i, j) : Name).1, .int ((i, j) : Name).2]) := by rw [upd_same, hx, hy]
def spUndone : Sp := fun vs H Q _ => ∃ (v : V) (d : WebD) (na : Addr) (ns : List Name), vs = [v, .ref na] ∧ WebR H v d ∧ Small d ∧ Wf d.rows ∧ NmsL H na ns ∧ (∀ n, n ∈ ns → n ∈ d.ly) ∧ ns.length ≤ 30000 ∧
  ∀ H' a, Same H H' → H a = none → NmsL H' a (told d.rows (goneD d ns)) → Q (.ref a) H'
theorem sc_undone : FnScope ["web", "names", "gone", "found", "row", "place"] ["web", "names"] (defScope s_undone) := ⟨rfl, rfl, rfl, by decide +kernel, rfl, by decide +kernel, by decide +kernel⟩
theorem ok_undone (Z : Zt K mg) : Cal P w K mg base "undone" 4 ["web", "names"] spUndone := by
  obtain ⟨fd, F⟩ := Z.du_undone
  have c_fallen : Cal P w K mg base "fallen" 3 ["web", "names"] spFallen := ok_fallen Z
  refine ⟨Z.gl_undone, F.kp, fd, F.ok sc_undone (fun vs H Q E h => ?_) (fun cdv A outer s H vs Q E hr h => ?_), FunD.bindsN F fun _ _ _ _ _ _ us hl => match us, hl with | [_, _], _ => rfl⟩
  · obtain ⟨v, d, na, ns, rfl, _⟩ := h
    rfl
  · obtain ⟨v, d, na, ns, rfl, hw, hsm, hwf, hN, hsub, hnl, k⟩ := h
    have hu := hu_of hr
    have z2 := hsm.nm
    have z3 := hsm.rw
    refine ⟨_, PSs.nox (pss_cons (ps_set (i := 2) sc_undone.nd rfl (Or.inl rfl) (pe_cal c_fallen (hr.mono (by decide)) (by rfl) (pa_cons (pv 0) (pa_cons (pv 1) pa_nil))))
      (pss_cons (ps_set (i := 3) sc_undone.nd rfl (Or.inl rfl) (pe_lst pa_nil))
      (pss_cons (ps_for PassesOwn.never rfl (pi_revR (by rfl) Z.fr_reversed (prg_1 (by rfl) Z.fr_range (pe_callB call_len_seq (by rfl) Z.fr_len PySem.boot_len (pa_cons (pe_ix ix_tup (pv 0) pe_int (fun _ _ => rfl)) pa_nil)))) (pg_name (i := 4) sc_undone.nd rfl (Or.inl rfl)) (pss_one (ps_for PassesOwn.never rfl (pi_range1 (by rfl) Z.fr_range (pa_cons (pe_callB call_len_seq (by rfl) Z.fr_len PySem.boot_len (pa_cons (pe_ix ix_list (pe_ix ix_tup (pv 0) pe_int (fun _ _ => rfl)) (pv 4) (fun _ _ => rfl)) pa_nil)) pa_nil)) (pg_name (i := 5) sc_undone.nd rfl (Or.inl rfl)) (pss_one (ps_if (pt_cmp (pc_din hu (pe_tup (pa_cons (pv 4) (pa_cons (pv 5) pa_nil))) (pv 2))) (pss_one (ps_expr (pe_bm PySem.F.plainAttrs_list PySem.F.slot_list_append PySem.F.type_list_append mt_append (pv 3) (pa_cons (pe_tup (pa_cons (pv 4) (pa_cons (pv 5) pa_nil))) pa_nil)))) pss_nil)))))
      (pss_one (ps_ret (pv 3)))))), ?_⟩
    refine ⟨_, rfl, _, rfl, v, d, na, ns, rfl, hw, hsm, hwf, hN, hsub, hnl, fun H1 go s1 f1 hgo => ?_⟩
    -- found = []
    refine ⟨Nat.zero_le _, fun l hl => ?_⟩
    have hw1 := hw.mono s1
    obtain ⟨t, ra, la, ka, oa, rfl, hT, ⟨rvs, hra, hrows⟩, _⟩ := hw1
    have hG : Same H1 (msk [l] (upd H1 l (.lst []))) := msk_into (sm_new hl) fun a ha => by rw [List.mem_singleton.mp ha]; exact hl
    have hrl := hrows.1
    -- for row in reversed(range(len(web[0])))
    refine ⟨_, rfl, t, _, 0, _, rfl, rfl, SqT.of (sm_new hl _ _ hT), rfl, ra, rvs, rfl, .inl (SqL.of (sm_new hl _ _ hra)), _, rfl, by omega, by omega, by omega, by omega,
      for_rangeC (n := (((rvs.length : Nat) : Int) - 0).toNat) (fun i σ H' => ∃ (a b : Option V) (vs : List V) (fs : List Name), σ = [some (.ref t), some (.ref na), some (.ref go), some (.ref l), a, b] ∧ Same H1 (msk [l] H') ∧ H' l = some (.lst vs) ∧
        All2 (NmR (msk [l] H')) vs fs ∧ fs ++ toldN d.rows (goneD d ns) (d.rows.length - i) = told d.rows (goneD d ns)) ?_ ?_ ?_⟩
    · exact ⟨none, none, [], [], rfl, hG, upd_same, .nil, rfl⟩
    · rintro i σ H' hi ⟨a, b, vs, fs, rfl, hS, hL, hA, hE⟩
      have hS' : Same H1 H' := hS.trans msk_same
      have hi' : i < d.rows.length := by omega
      obtain ⟨r, er⟩ : ∃ r : Nat, d.rows.length - i = r + 1 := ⟨d.rows.length - i - 1, by omega⟩
      have hr' : r < d.rows.length := by omega
      have ez : (0 + (((((rvs.length : Nat) : Int) - 0).toNat : Nat) : Int) - 1 + ((i : Nat) : Int) * (-1)) = (r : Int) := by omega
      rw [ez]
      obtain ⟨rr, rws, e1, e2, e3⟩ := row_at hrows hr'
      have hlt : (told d.rows (goneD d ns)).length ≤ 100000 := Nat.le_trans (toldN_len _ _ _) z2
      rw [er] at hE
      have hE2 : fs ++ ((nmRow r (wid d.rows r)).filter (fun n => decide (n ∈ goneD d ns)) ++ toldN d.rows (goneD d ns) r) = told d.rows (goneD d ns) := hE
      have hlf : fs.length + ((nmRow r (wid d.rows r)).filter (fun n => decide (n ∈ goneD d ns))).length ≤ 100000 := by
        have := congrArg List.length hE2
        rw [List.length_append, List.length_append] at this
        omega
      have hwl : wid d.rows r ≤ 100000 := by
        have : (namesN d.rows (r + 1)).length ≤ (names d.rows).length := namesN_le d.rows (by omega)
        have e : namesN d.rows (r + 1) = namesN d.rows r ++ nmRow r (wid d.rows r) := rfl
        rw [e, List.length_append, length_nmRow] at this
        omega
      -- for place in range(len(web[0][row]))
      refine ⟨_, rfl, t, _, 0, _, rfl, rfl, SqT.of (hS' _ _ hT), rfl, _, rfl, ra, rvs, _, _, rfl, rfl, SqL.of (hS' _ _ hra), atI_nat e1, rr, rws, rfl, .inl (SqL.of (hS' _ _ e2)), _, rfl, by omega, by omega,
        for_range (lo := 0) (n := rws.length) (fun j σ H' => ∃ (b : Option V) (vs : List V), σ = [some (.ref t), some (.ref na), some (.ref go), some (.ref l), some (.int (r : Int)), b] ∧ Same H1 (msk [l] H') ∧ H' l = some (.lst vs) ∧
          All2 (NmR (msk [l] H')) vs (fs ++ (nmRow r j).filter fun n => decide (n ∈ goneD d ns))) ?_ ?_ ?_⟩
      · exact ⟨b, vs, rfl, hS, hL, by simpa [nmRow] using hA⟩
      · rintro j σ H2 hj ⟨b, vs, rfl, hS, hL, hA⟩
        have hS2 : Same H1 H2 := hS.trans msk_same
        -- if (row, place) in gone
        refine ⟨_, rfl, _, rfl, (by show 2 ≤ sizeLine; decide), fun p hp => ?_⟩
        obtain ⟨o, g1, g2⟩ := ((hgo.mono hS2).mono (sm_new hp)).get (n := (r, j)) (newName (i := r) (j := j) rfl (Int.zero_add _))
        refine ⟨_, rfl, go, o, rfl, g1, _, rfl, ?_⟩
        rw [g2]
        have hpl : p ≠ l := fun e => by rw [e, hL] at hp; cases hp
        have hm1 : Same (msk [l] H2) (msk [l] (upd H2 p (.tup [.int (r : Int), .int (0 + (j : Int))]))) := msk_mono (sm_new hp)
        by_cases c : (r, j) ∈ goneD d ns
        · rw [decide_eq_true c]
          refine iteT ?_
          -- found.append((row, place))
          refine ⟨_, rfl, .inl ⟨rfl, _, SqL.of (sm_new hp _ _ hL)⟩, _, rfl, _, rfl, (by show 2 ≤ sizeLine; decide), fun q hq => ?_⟩
          have hql : q ≠ l := fun e => by rw [e, sm_new hp _ _ hL] at hq; cases hq
          have hL2 := sm_new (o := .tup [.int (r : Int), .int (0 + (j : Int))]) hq _ _ (sm_new (o := .tup [.int (r : Int), .int (0 + (j : Int))]) hp _ _ hL)
          have hm2 := hm1.trans (msk_mono (M := [l]) (sm_new (o := .tup [.int (r : Int), .int (0 + (j : Int))]) hq))
          refine ⟨l, vs, _, rfl, rfl, hL2, szt ?_, _, _, rfl, ?_, upd_same, ?_⟩
          · rw [hA.1, List.length_append]
            have h1 : ((nmRow r j).filter (fun n => decide (n ∈ goneD d ns))).length ≤ ((nmRow r (wid d.rows r)).filter (fun n => decide (n ∈ goneD d ns))).length := by
              exact filter_row_le r _ (by rw [← e3]; omega)
            omega
          · rw [msk_upd (by simp)]
            exact hS.trans hm2
          · rw [msk_upd (by simp), nmRow_succ, List.filter_append, ← List.append_assoc]
            have e5 : List.filter (fun n => decide (n ∈ goneD d ns)) [(r, j)] = [(r, j)] := by simp [c]
            rw [e5]
            refine (hA.mono fun v x => NmR.mono hm2).snoc ⟨q, rfl, ?_⟩
            rw [msk_out (by simpa using hql)]
            exact newName rfl (Int.zero_add _)
        · rw [decide_eq_false c]
          refine iteF ⟨_, vs, rfl, hS.trans hm1, sm_new hp _ _ hL, ?_⟩
          rw [nmRow_succ, List.filter_append]
          have e5 : List.filter (fun n => decide (n ∈ goneD d ns)) [(r, j)] = [] := by simp [c]
          rw [e5, List.append_nil]
          exact hA.mono fun v x => NmR.mono hm1
      · rintro σ H2 ⟨b, vs, rfl, hS, hL, hA⟩
        rw [e3] at hA
        refine ⟨_, _, vs, _, rfl, hS, hL, hA, ?_⟩
        rw [List.append_assoc, show d.rows.length - (i + 1) = r by omega]
        exact hE2
    · rintro σ H2 ⟨a, b, vs, fs, rfl, hS, hL, hA, hE⟩
      have e6 : d.rows.length - (((rvs.length : Nat) : Int) - 0).toNat = 0 := by omega
      rw [e6] at hE
      have hE3 : fs = told d.rows (goneD d ns) := by rw [← hE]; exact (List.append_nil _).symm
      refine ⟨_, rfl, k H2 l (s1.trans (hS.trans msk_same)) (s1.free hl) ⟨vs, hL, ?_⟩⟩
      rw [← hE3]
      exact hA.mono fun v x => NmR.mono msk_same

/-! ### way_up -/
/-- a way from n upward, as the document has it -/
structure WayUp (d : WebD) (ns : List Name) (n : Name) (p : List Name) : Prop where
  hd : p[0]? = some n
  ch : ∀ (i : Nat) x y, p[i]? = some x → p[i + 1]? = some y → y ∈ abv d.rows x
  ok : ∀ x, x ∈ p → x ∈ names d.rows ∧ x ∉ goneD d ns
/-- such a way that ends at last -/
structure WayTo (d : WebD) (ns : List Name) (n : Name) (p : List Name) (last : Name) : Prop extends WayUp d ns n p where
  ls : p[p.length - 1]? = some last
  ne : 0 < p.length
  ln : p.length ≤ last.1 + 1
theorem WayTo.snoc {d : WebD} {ns : List Name} {n : Name} {p : List Name} {last y : Name} (wf : Wf d.rows) (h : WayTo d ns n p last) (hy : y ∈ abv d.rows last) (hg : y ∉ goneD d ns) : WayTo d ns n (p ++ [y]) y ∧ last.1 < y.1 := by
  obtain ⟨q1, q2⟩ := mem_abv.mp hy
  have q3 := (wf y q1 last q2).1
  refine ⟨⟨⟨?_, ?_, ?_⟩, ?_, ?_, ?_⟩, q3⟩
  · rw [List.getElem?_append, if_pos h.ne]; exact h.hd
  · intro i x z e1 e2
    rw [List.getElem?_append] at e1 e2
    by_cases c1 : i + 1 < p.length
    · rw [if_pos (by omega)] at e1
      rw [if_pos c1] at e2
      exact h.ch i x z e1 e2
    · rw [if_neg c1] at e2
      by_cases c2 : i < p.length
      · rw [if_pos c2] at e1
        have e3 : i = p.length - 1 := by omega
        rw [e3, h.ls] at e1
        cases e1
        rw [show i + 1 - p.length = 0 by omega] at e2
        cases e2
        exact hy
      · rw [if_neg c2] at e1
        obtain ⟨k, hk⟩ : ∃ k, i + 1 - p.length = k + 1 := ⟨i - p.length, by omega⟩
        rw [hk] at e2
        simp at e2
  · intro x hx
    rcases List.mem_append.mp hx with hx | hx
    · exact h.ok x hx
    · rw [List.mem_singleton.mp hx]; exact ⟨q1, hg⟩
  · rw [List.length_append, List.length_singleton, List.getElem?_append, if_neg (by omega), show p.length + 1 - 1 - p.length = 0 by omega]
    rfl
  · rw [List.length_append]; exact Nat.add_pos_left h.ne _
  · rw [List.length_append, List.length_singleton]
    have := h.ln
    omega
def spWayUp : Sp := fun vs H Q _ => ∃ (v : V) (d : WebD) (na tn : Addr) (ns : List Name) (n : Name), vs = [v, .ref na, .ref tn] ∧ WebR H v d ∧ Small d ∧ Wf d.rows ∧ NmsL H na ns ∧ (∀ n, n ∈ ns → n ∈ d.ly) ∧ ns.length ≤ 30000 ∧
  H tn = some (.tup [.int n.1, .int n.2]) ∧ n ∈ names d.rows ∧
  (n ∈ goneD d ns → ∀ H', Same H H' → Q .non H') ∧
  (n ∉ goneD d ns → ∀ H' a p last, Same H H' → H a = none → NmsL H' a p → WayTo d ns n p last → last ∈ heldL d → Q (.ref a) H')
theorem sc_way_up : FnScope ["web", "names", "name", "gone", "above", "ends", "found", "drawer"] ["web", "names", "name"] (defScope s_way_up) := ⟨rfl, rfl, rfl, by decide +kernel, rfl, by decide +kernel, by decide +kernel⟩
theorem ok_way_up (Z : Zt K mg) : Cal P w K mg base "way_up" 4 ["web", "names", "name"] spWayUp := by
  obtain ⟨fd, F⟩ := Z.du_way_up
  have c_fallen : Cal P w K mg base "fallen" 3 ["web", "names"] spFallen := ok_fallen Z
  have c_drawers : Cal P w K mg base "drawers" 2 ["web"] spDrawers := ok_drawers Z
  have c_held : Cal P w K mg base "held" 1 ["web"] spHeld := ok_held Z
  refine ⟨Z.gl_way_up, F.kp, fd, F.ok sc_way_up (fun vs H Q E h => ?_) (fun cdv A outer s H vs Q E hr h => ?_), FunD.bindsN F fun _ _ _ _ _ _ us hl => match us, hl with | [_, _, _], _ => rfl⟩
  · obtain ⟨v, d, na, tn, ns, n, rfl, _⟩ := h
    rfl
  · obtain ⟨v, d, na, tn, ns, n, rfl, hw, hsm, hwf, hN, hsub, hnl, htn, hn, k1, k2⟩ := h
    have hu := hu_of hr
    have z1 := hsm.ed
    have z3 := hsm.rw
    refine ⟨_, PSs.nox (pss_cons (ps_set (i := 3) sc_way_up.nd rfl (Or.inr rfl) (pe_cal c_fallen (hr.mono (by decide)) (by rfl) (pa_cons (pv 0) (pa_cons (pv 1) pa_nil))))
      (pss_cons (ps_set (i := 4) sc_way_up.nd rfl (Or.inl rfl) (pe_cal c_drawers (hr.mono (by decide)) (by rfl) (pa_cons (pv 0) pa_nil)))
      (pss_cons (ps_set (i := 5) sc_way_up.nd rfl (Or.inl rfl) (pe_cal c_held (hr.mono (by decide)) (by rfl) (pa_cons (pv 0) pa_nil)))
      (pss_cons (ps_if (pt_cmp (pc_dnotin hu (pv 2) (pv 4))) (pss_one ps_never) pss_nil)
      (pss_cons (ps_if (pt_cmp (pc_din hu (pv 2) (pv 3))) (pss_one (ps_ret pe_non)) pss_nil)
      (pss_cons (ps_set (i := 6) sc_way_up.nd rfl (Or.inl rfl) (pe_lst (pa_cons (pv 2) pa_nil)))
      (pss_cons (ps_while PassesOwn.never (pt_cmp (pc_dnotin hu (pe_ix ix_list (pv 6) (pe_un un_neg pe_int) (fun _ _ => rfl)) (pv 5))) (pss_one (ps_expr (pe_bm PySem.F.plainAttrs_list PySem.F.slot_list_append PySem.F.type_list_append mt_append (pv 6) (pa_cons (pe_ix ix_list (pe_lc (own := [("drawer", 7)]) (by rfl) sc_way_up.nd (pi_list (pe_dget hu (pv 4) (pe_ix ix_list (pv 6) (pe_un un_neg pe_int) (fun _ _ => rfl)) (fun _ _ => rfl))) (blkOk_by (own := [("drawer", 7)]) (N := ["web", "names", "name", "gone", "above", "ends", "found", "drawer"]) (sc := defScope s_way_up) (by decide +kernel)) (fun _ _ _ _ _ => (pg_name (i := 7) sc_way_up.nd rfl (Or.inl rfl) (Or.inr rfl))) (fun _ _ _ _ _ => (pts_one (pt_cmp (pc_dnotin hu (pv 7) (pv 3))))) (fun _ _ _ _ _ => (pv 7))) pe_int (fun _ _ => rfl)) pa_nil)))))
      (pss_one (ps_ret (pv 6)))))))))), ?_⟩
    -- gone, above, ends
    refine ⟨_, rfl, _, rfl, v, d, na, ns, rfl, hw, hsm, hwf, hN, hsub, hnl, fun H1 go s1 f1 hgo => ?_⟩
    refine ⟨_, rfl, v, d, rfl, hw.mono s1, hsm, hwf, fun H2 ab s2 f2 hab => ?_⟩
    refine ⟨_, rfl, v, d, rfl, (hw.mono s1).mono s2, hsm, fun H3 en s3 f3 hen => ?_⟩
    have s03 := (s1.trans s2).trans s3
    have hgo3 := (hgo.mono s2).mono s3
    have hab3 := hab.mono s3
    -- if name not in above
    obtain ⟨al, hal, halN⟩ := hab3
    have hga := dget_n (f := fun n => V.ref (al n)) (ns := names d.rows) hal (s03 _ _ htn)
    rw [if_pos hn] at hga
    refine ⟨_, rfl, _, rfl, ab, _, rfl, hga, _, rfl, iteF ?_⟩
    -- if name in gone
    obtain ⟨o, g1, g2⟩ := hgo3.get (n := n) (s03 _ _ htn)
    refine ⟨_, rfl, _, rfl, go, o, rfl, g1, _, rfl, ?_⟩
    rw [g2]
    by_cases c : n ∈ goneD d ns
    · rw [decide_eq_true c]
      exact iteT (k1 c H3 s03)
    · rw [decide_eq_false c]
      refine iteF ?_
      -- found = [name]
      refine ⟨_, rfl, (by show 1 ≤ sizeLine; decide), fun l hl => ?_⟩
      have hG : Same H3 (msk [l] (upd H3 l (.lst [.ref tn]))) := msk_into (sm_new hl) fun a ha => by rw [List.mem_singleton.mp ha]; exact hl
      -- while found[-1] not in ends
      refine ⟨fun m σ H' => ∃ (vs : List V) (p : List Name) (last : Name), σ = [some v, some (.ref na), some (.ref tn), some (.ref go), some (.ref ab), some (.ref en), some (.ref l), none] ∧ Same H3 (msk [l] H') ∧ H' l = some (.lst vs) ∧
          All2 (NmR (msk [l] H')) vs p ∧ WayTo d ns n p last ∧ m = d.rows.length - last.1, ⟨_, [.ref tn], [n], n, rfl, hG, upd_same, .one ⟨tn, rfl, hG _ _ (s03 _ _ htn)⟩, ⟨⟨rfl, fun i x y e1 e2 => by simp at e2, fun x hx => by rw [List.mem_singleton.mp hx]; exact ⟨hn, c⟩⟩, rfl, Nat.zero_lt_one, Nat.le_add_left _ _⟩, rfl⟩, ?_⟩
      rintro m σ H' ⟨vs, p, last, rfl, hS, hL, hA, hW, rfl⟩
      have hS' : Same H3 H' := hS.trans msk_same
      have hln : last ∈ names d.rows := (hW.ok last (List.mem_of_getElem? hW.ls)).1
      have hlg : last ∉ goneD d ns := (hW.ok last (List.mem_of_getElem? hW.ls)).2
      have hlr : last.1 < d.rows.length := (mem_namesN.mp hln).1
      obtain ⟨lv, el, tl, rfl, htl⟩ := hA.get hW.ls
      have hne := hW.ne
      have hlen := hA.1
      have hat : atI vs (-1) = some (.ref tl) := by
        have e : vs = vs.dropLast ++ [.ref tl] := by
          have h1 : vs ≠ [] := fun e => by rw [e] at hlen; simp at hlen; omega
          have h2 : vs.getLast h1 = .ref tl := by
            rw [List.getLast_eq_getElem]
            have := List.getElem?_eq_some_iff.mp el
            obtain ⟨q1, q2⟩ := this
            simp only [hlen]
            exact q2
          rw [← h2]
          exact (List.dropLast_concat_getLast h1).symm
        rw [e]
        exact atI_last _ _
      have htl' := msk_same _ _ htl
      obtain ⟨o, g3, g4⟩ := (hen.mono hS').get (n := last) htl'
      refine ⟨_, rfl, _, rfl, l, _, _, _, rfl, rfl, SqL.of hL, hat, _, rfl, en, o, rfl, g3, _, rfl, ?_⟩
      rw [g4]
      by_cases ch : last ∈ heldL d
      · rw [decide_eq_true ch]
        refine iteF ?_
        exact ⟨_, rfl, k2 c H' l p last (s03.trans hS') (s03.free hl) ⟨vs, hL, hA.mono fun v x => NmR.mono msk_same⟩ hW ch⟩
      · rw [decide_eq_false ch]
        refine iteT ?_
        obtain ⟨al, hal, halN⟩ := (hab.mono s3).mono hS'
        have hga := dget_n (f := fun n => V.ref (al n)) (ns := names d.rows) hal htl'
        rw [if_pos hln] at hga
        obtain ⟨avs, ha, haA⟩ := halN last hln
        have hfirst : ∃ y, ((abv d.rows last).filter fun m => decide (m ∉ goneD d ns))[0]? = some y ∧ y ∈ abv d.rows last ∧ y ∉ goneD d ns := by
          have h1 : ¬ ∀ y ∈ abv d.rows last, y ∈ goneD d ns := fun h => hlg ((gone_iff hwf last).mpr ⟨hln, .inr ⟨ch, h⟩⟩)
          cases e : (abv d.rows last).filter fun m => decide (m ∉ goneD d ns) with
          | nil =>
            refine absurd (fun y hy => ?_) h1
            have := List.filter_eq_nil_iff.mp e y hy
            simpa using this
          | cons y r =>
            have hy : y ∈ (abv d.rows last).filter fun m => decide (m ∉ goneD d ns) := by rw [e]; exact List.mem_cons_self
            obtain ⟨q1, q2⟩ := List.mem_filter.mp hy
            exact ⟨y, rfl, q1, of_decide_eq_true q2⟩
        obtain ⟨y, ey, hy1, hy2⟩ := hfirst
        have hlv : vs.length < sizeLine := szt (by have := hW.ln; omega)
        -- found.append([drawer for drawer in above[found[-1]] if drawer not in gone][0])
        refine ⟨fun σ' H'' => ∃ m', m' < d.rows.length - last.1 ∧ ∃ (vs : List V) (p : List Name) (last : Name), σ' = [some v, some (.ref na), some (.ref tn), some (.ref go), some (.ref ab), some (.ref en), some (.ref l), none] ∧ Same H3 (msk [l] H'') ∧ H'' l = some (.lst vs) ∧
          All2 (NmR (msk [l] H'')) vs p ∧ WayTo d ns n p last ∧ m' = d.rows.length - last.1, fun σ' H'' h => h, ?_⟩
        refine ⟨_, rfl, .inl ⟨rfl, _, SqL.of hL⟩, _, rfl, _, rfl, _, rfl, l, _, _, _, rfl, rfl, SqL.of hL, hat, ab, _, rfl, hga, al last, rfl, ⟨_, SqL.of ha⟩, fun Dl hDl =>
          lc_list (K := K) (a := al last) (xs := avs) (fun j H5 => Same H' H5 ∧ ∃ ws, H5 Dl = some (.lst ws) ∧ All2 (NmR H') ws (((abv d.rows last).take j).filter fun m => decide (m ∉ goneD d ns))) ?_ ?_ ?_ ?_⟩
        · exact ⟨sm_new hDl, [], upd_same, .nil⟩
        · rintro j H5 hj ⟨q1, _⟩
          exact SqL.of (q1 _ _ ha)
        · rintro j x H5 hx ⟨q1, ws, q2, q3⟩
          obtain ⟨m, em, tm, rfl, htm⟩ := haA.getV hx
          obtain ⟨o, g5, g6⟩ := ((hgo3.mono hS').mono q1).get (n := m) (q1 _ _ htm)
          refine ⟨rfl, _, rfl, _, rfl, go, o, rfl, g5, _, rfl, ?_⟩
          rw [g6]
          by_cases cm : m ∈ goneD d ns
          · rw [decide_eq_true cm]
            refine iteF ⟨q1, ws, q2, ?_⟩
            rw [take_snoc em, List.filter_append]
            have e5 : List.filter (fun m => decide (m ∉ goneD d ns)) [m] = [] := by simp [cm]
            rw [e5, List.append_nil]
            exact q3
          · rw [decide_eq_false cm]
            refine iteT ⟨_, rfl, ws, q2, ?_, sm_upd q1 hDl, _, upd_same, ?_⟩
            · rw [q3.1]
              have h1 := List.length_filter_le (fun m => decide (m ∉ goneD d ns)) ((abv d.rows last).take j)
              have h2 := abv_le d.rows last
              rw [List.length_take] at h1
              exact szt (by omega)
            · rw [take_snoc em, List.filter_append]
              have e5 : List.filter (fun m => decide (m ∉ goneD d ns)) [m] = [m] := by simp [cm]
              rw [e5]
              exact q3.snoc ⟨tm, rfl, htm⟩
        · rintro H5 ⟨q1, ws, q2, q3⟩
          have e5 : (abv d.rows last).take avs.length = abv d.rows last := List.take_of_length_le (by rw [haA.1]; exact Nat.le_refl _)
          rw [e5] at q3
          obtain ⟨yv, ew, ty, rfl, hty⟩ := q3.get ey
          have hL5 := q1 _ _ hL
          refine ⟨Dl, ws, 0, _, rfl, rfl, SqL.of q2, at_of (j := 0) rfl ew, l, vs, _, rfl, rfl, hL5, hlv, ?_⟩
          obtain ⟨hW2, hlt⟩ := hW.snoc hwf hy1 hy2
          have hyr : y.1 < d.rows.length := (mem_namesN.mp (hW2.ok y (by simp)).1).1
          refine ⟨d.rows.length - y.1, by omega, vs ++ [.ref ty], p ++ [y], y, rfl, ?_, upd_same, ?_, hW2, rfl⟩
          · rw [msk_upd (by simp)]
            exact hS.trans (msk_mono q1)
          · rw [msk_upd (by simp)]
            refine (hA.mono fun v x => NmR.mono (msk_mono q1)).snoc (NmR.out (fun a ha xs => ?_) ⟨ty, rfl, q1 _ _ hty⟩)
            rw [List.mem_singleton.mp ha, hL5]
            intro e
            cases e
end K34
set_option autoImplicit true
set_option Elab.async false
set_option linter.all false
set_option maxRecDepth 100000
set_option maxHeartbeats 4000000
namespace K34
open PySem PySem.Spec PyProof.Rows L2
variable {P : Program} {w : World} {K : PySem.W.Frag} {mg : Str → Option Value} {base : Heap}

/-! ### names as data -/
def pdN (n : Name) : PyData := .tuple [.int n.1, .int n.2]
def pdNs (ns : List Name) : PyData := .list (ns.map pdN)
theorem dp_name {H : Hp} {t : Addr} {n : Name} (h : H t = some (.tup [.int n.1, .int n.2])) : Dp K H (.ref t) (pdN n) := .tup (SqT.of h) (.cons (.int _) (.cons (.int _) .nil))
theorem dp_all {H : Hp} : ∀ {vs : List V} {ns : List Name}, All2 (NmR H) vs ns → DpAll K H vs (ns.map pdN)
  | [], [], _ => .nil
  | [], n :: ns, h => by have := h.1; simp at this
  | v :: vs, [], h => by have := h.1; simp at this
  | v :: vs, n :: ns, h => by
    obtain ⟨t, rfl, ht⟩ := h.2 0 v n rfl rfl
    exact .cons (dp_name ht) (dp_all ⟨by have := h.1; simpa using this, fun i w x e1 e2 => h.2 (i + 1) w x (by simpa using e1) (by simpa using e2)⟩)
theorem dp_names {H : Hp} {a : Addr} {ns : List Name} (h : NmsL H a ns) : Dp K H (.ref a) (pdNs ns) := let ⟨vs, h1, h2⟩ := h; .lst (SqL.of h1) (dp_all h2)
theorem shaped_name (n : Name) : SeqAt.shaped (pdN n) = true := by
  simp [SeqAt.shaped, pdN, PyData.canLay0, PyData.canLayAll0, PyData.depth, PyData.depthAll]
theorem shaped_all : ∀ ns : List Name, PyData.canLayAll0 (ns.map pdN) = true ∧ PyData.depthAll (ns.map pdN) ≤ 1
  | [] => ⟨rfl, Nat.zero_le _⟩
  | n :: ns => by
    obtain ⟨h1, h2⟩ := shaped_all ns
    constructor
    · simp only [List.map_cons, PyData.canLayAll0, h1, Bool.and_true]
      simp [pdN, PyData.canLay0, PyData.canLayAll0]
    · simp only [List.map_cons, PyData.depthAll]
      have : PyData.depth (pdN n) = 1 := by simp [pdN, PyData.depth, PyData.depthAll]
      omega
theorem shaped_names (ns : List Name) : SeqAt.shaped (pdNs ns) = true := by
  obtain ⟨h1, h2⟩ := shaped_all ns
  unfold SeqAt.shaped pdNs
  rw [Bool.and_eq_true]
  refine ⟨by simp only [PyData.canLay0]; exact h1, decide_eq_true ?_⟩
  simp only [PyData.depth]
  omega
theorem eqv_name (a b : Name) : PyData.eqv (pdN a) (pdN b) = decide (a = b) := by
  have h : (PyData.eqv (pdN a) (pdN b)) = (((a.1 : Int) == (b.1 : Int)) && (((a.2 : Int) == (b.2 : Int)) && true)) := by
    simp only [pdN, PyData.eqv, PyData.eqvAll]
  rw [h, Bool.eq_iff_iff]
  simp only [Bool.and_true, Bool.and_eq_true, beq_iff_eq, decide_eq_true_eq]
  constructor
  · rintro ⟨h1, h2⟩
    exact Prod.ext (by omega) (by omega)
  · rintro rfl
    exact ⟨rfl, rfl⟩
theorem eqv_all : ∀ a b : List Name, PyData.eqvAll (a.map pdN) (b.map pdN) = decide (a = b)
  | [], [] => by simp [PyData.eqvAll]
  | [], y :: b => by simp [PyData.eqvAll]
  | x :: a, [] => by simp [PyData.eqvAll]
  | x :: a, y :: b => by
    simp only [List.map_cons, PyData.eqvAll, eqv_name, eqv_all a b]
    rw [Bool.eq_iff_iff]
    simp
theorem eqv_names (a b : List Name) : PyData.eqv (pdNs a) (pdNs b) = decide (a = b) := by
  unfold pdNs
  simp only [PyData.eqv]
  exact eqv_all a b
theorem any_name (ns : List Name) (n : Name) : ((ns.map pdN).any fun z => PyData.eqv z (pdN n)) = decide (n ∈ ns) := by
  rw [Bool.eq_iff_iff, List.any_map, List.any_eq_true, decide_eq_true_eq]
  constructor
  · rintro ⟨m, hm, e⟩
    have e : PyData.eqv (pdN m) (pdN n) = true := e
    rw [eqv_name, decide_eq_true_eq] at e
    rw [← e]; exact hm
  · intro h
    exact ⟨n, h, by show PyData.eqv (pdN n) (pdN n) = true; rw [eqv_name]; simp⟩
theorem dp_nil {H : Hp} {p : Addr} (h : H p = some (.lst [])) : Dp K H (.ref p) (pdNs []) := .lst (SqL.of h) .nil

/-! ### small looks -/
def spWhole : Sp := fun vs H Q _ => ∃ i : Int, vs = [.int i] ∧ Q (.bl true) H
theorem sc_law_whole : FnScope ["_law_found"] ["_law_found"] (defScope s_law_whole) := ⟨rfl, rfl, rfl, by decide +kernel, rfl, by decide +kernel, by decide +kernel⟩
theorem ok_law_whole (Z : Zt K mg) : Cal P w K mg base "_law_whole" 1 ["_law_found"] spWhole := by
  obtain ⟨fd, F⟩ := Z.du_law_whole
  refine ⟨Z.gl_law_whole, F.kp, fd, F.ok sc_law_whole (fun vs H Q E h => ?_) (fun cdv A outer s H vs Q E hr h => ?_), FunD.bindsN F fun _ _ _ _ _ _ us hl => match us, hl with | [_], _ => rfl⟩
  · obtain ⟨i, rfl, _⟩ := h
    rfl
  · obtain ⟨i, rfl, k⟩ := h
    refine ⟨_, PSs.nox (pss_one (ps_ret (pe_and (pe_callB call_isi (by rfl) Z.fr_isinstance (by decide +kernel) (pa_cons (pv 0) (pa_cons (pe_bltn (v := .ty "int") (by rfl) Z.fr_int (by decide +kernel) rfl) pa_nil))) (pe_one (pe_not (pe_callB call_isi (by rfl) Z.fr_isinstance (by decide +kernel) (pa_cons (pv 0) (pa_cons (pe_bltn (v := .ty "bool") (by rfl) Z.fr_bool (by decide +kernel) rfl) pa_nil)))))))), ?_⟩
    refine ⟨_, rfl, .int i, .ty "int", .type "int", .type "int", true, rfl, .ty _, .base (.int _), kit_ty (by decide +kernel), true, rfl, ?_⟩
    refine iteT ?_
    exact ⟨_, rfl, .int i, .ty "bool", .type "int", .type "bool", false, rfl, .ty _, .base (.int _), kit_ty (by decide +kernel), false, rfl, k⟩
def spName : Sp := fun vs H Q _ => ∃ (t : Addr) (n : Name), vs = [.ref t] ∧ H t = some (.tup [.int n.1, .int n.2]) ∧ Q (.bl true) H
theorem sc_law_name : FnScope ["_law_found"] ["_law_found"] (defScope s_law_name) := ⟨rfl, rfl, rfl, by decide +kernel, rfl, by decide +kernel, by decide +kernel⟩
theorem ok_law_name (Z : Zt K mg) : Cal P w K mg base "_law_name" 2 ["_law_found"] spName := by
  obtain ⟨fd, F⟩ := Z.du_law_name
  have c_law_whole : Cal P w K mg base "_law_whole" 1 ["_law_found"] spWhole := ok_law_whole Z
  refine ⟨Z.gl_law_name, F.kp, fd, F.ok sc_law_name (fun vs H Q E h => ?_) (fun cdv A outer s H vs Q E hr h => ?_), FunD.bindsN F fun _ _ _ _ _ _ us hl => match us, hl with | [_], _ => rfl⟩
  · obtain ⟨t, n, rfl, _⟩ := h
    rfl
  · obtain ⟨t, n, rfl, ht, k⟩ := h
    refine ⟨_, PSs.nox (pss_one (ps_ret (pe_and (pe_callB call_isi (by rfl) Z.fr_isinstance (by decide +kernel) (pa_cons (pv 0) (pa_cons (pe_bltn (v := .ty "tuple") (by rfl) Z.fr_tuple (by decide +kernel) rfl) pa_nil))) (pe_and (pe_cmpR op_eq (pe_callB call_len_seq (by rfl) Z.fr_len PySem.boot_len (pa_cons (pv 0) pa_nil)) pe_int (nomark _)) (pe_and (pe_cal c_law_whole (hr.mono (by decide)) (by rfl) (pa_cons (pe_ix ix_tup (pv 0) pe_int (fun _ _ => rfl)) pa_nil)) (pe_one (pe_cal c_law_whole (hr.mono (by decide)) (by rfl) (pa_cons (pe_ix ix_tup (pv 0) pe_int (fun _ _ => rfl)) pa_nil)))))))), ?_⟩
    refine ⟨_, rfl, .ref t, .ty "tuple", .type "tuple", .type "tuple", true, rfl, .ty _, .base (.tup ht), kit_ty (by decide +kernel), true, rfl, ?_⟩
    refine iteT ?_
    refine ⟨_, rfl, t, _, rfl, .inr (SqT.of ht), rfl, true, rfl, ?_⟩
    refine iteT ?_
    refine ⟨_, rfl, t, _, 0, _, rfl, rfl, SqT.of ht, rfl, _, rfl, true, rfl, ?_⟩
    refine iteT ?_
    exact ⟨_, rfl, t, _, 1, _, rfl, rfl, SqT.of ht, rfl, _, rfl, k⟩
def spListed : Sp := fun vs H Q _ => ∃ (a : Addr) (ns : List Name), vs = [.ref a] ∧ NmsL H a ns ∧ ns.length ≤ 100000 ∧ ∀ H', Same H H' → Q (.bl true) H'
theorem sc_law_listed : FnScope ["_law_found", "_law_name_here"] ["_law_found"] (defScope s_law_listed) := ⟨rfl, rfl, rfl, by decide +kernel, rfl, by decide +kernel, by decide +kernel⟩
theorem ok_law_listed (Z : Zt K mg) : Cal P w K mg base "_law_listed" 3 ["_law_found"] spListed := by
  obtain ⟨fd, F⟩ := Z.du_law_listed
  have c_law_name : Cal P w K mg base "_law_name" 2 ["_law_found"] spName := ok_law_name Z
  refine ⟨Z.gl_law_listed, F.kp, fd, F.ok sc_law_listed (fun vs H Q E h => ?_) (fun cdv A outer s H vs Q E hr h => ?_), FunD.bindsN F fun _ _ _ _ _ _ us hl => match us, hl with | [_], _ => rfl⟩
  · obtain ⟨a, ns, rfl, _⟩ := h
    rfl
  · obtain ⟨a, ns, rfl, ⟨vs, ha, hA⟩, hl, k⟩ := h
    refine ⟨_, PSs.nox (pss_one (ps_ret (pe_and (pe_callB call_isi (by rfl) Z.fr_isinstance (by decide +kernel) (pa_cons (pv 0) (pa_cons (pe_bltn (v := .ty "list") (by rfl) Z.fr_list (by decide +kernel) rfl) pa_nil))) (pe_one (pe_cmpR (op_eqD hr.units) (pe_lc (own := [("_law_name_here", 1)]) (by rfl) sc_law_listed.nd (pi_list (pv 0)) (blkOk_by (own := [("_law_name_here", 1)]) (N := ["_law_found", "_law_name_here"]) (sc := defScope s_law_listed) (by decide +kernel)) (fun _ _ _ _ _ => (pg_name (i := 1) sc_law_listed.nd rfl (Or.inl rfl) (Or.inr rfl))) (fun _ _ _ _ _ => (pts_one (pt_not (pt_val (pe_cal c_law_name (hr.mono (by decide)) (by rfl) (pa_cons (pv 1) pa_nil)))))) (fun _ _ _ _ _ => (pv 1))) (pe_lst pa_nil) (nomark _)))))), ?_⟩
    refine ⟨_, rfl, .ref a, .ty "list", .type "list", .type "list", true, rfl, .ty _, .base (.lst ha), kit_ty (by decide +kernel), true, rfl, ?_⟩
    refine iteT ?_
    refine ⟨_, rfl, a, rfl, ⟨_, SqL.of ha⟩, fun D hD => lc_list (K := K) (a := a) (xs := vs) (fun j H5 => Same H H5 ∧ H5 D = some (.lst [])) ?_ ?_ ?_ ?_⟩
    · exact ⟨sm_new hD, upd_same⟩
    · rintro j H5 hj ⟨q1, q2⟩
      exact SqL.of (q1 _ _ ha)
    · rintro j x H5 hx ⟨q1, q2⟩
      obtain ⟨n, en, t, rfl, ht⟩ := hA.getV hx
      refine ⟨rfl, _, rfl, t, n, rfl, q1 _ _ ht, true, rfl, iteF ⟨q1, q2⟩⟩
    · rintro H5 ⟨q1, q2⟩
      refine ⟨Nat.zero_le _, fun p hp => ?_⟩
      refine ⟨_, _, dp_nil (sm_new hp _ _ q2), dp_nil upd_same, shaped_names [], shaped_names [], ?_⟩
      rw [eqv_names]
      exact k _ (q1.trans (sm_new hp))
end K34
set_option autoImplicit true
set_option Elab.async false
set_option linter.all false
set_option maxRecDepth 100000
set_option maxHeartbeats 4000000
namespace K34
open PySem PySem.Spec PyProof.Rows L2
variable {P : Program} {w : World} {K : PySem.W.Frag} {mg : Str → Option Value} {base : Heap}

/-! ### _law_above -/
/-- the drawers by a dict that nobody walks -/
def AboveH (H : Hp) (a : Addr) (rows : Rows) : Prop := ∃ al : Name → Addr, H a = some (.dT (dcl (names rows) fun n => .ref (al n))) ∧ ∀ n, n ∈ names rows → NmsL H (al n) (abv rows n)
theorem AboveH.mono {H H' : Hp} {a : Addr} {rows : Rows} (s : Same H H') (h : AboveH H a rows) : AboveH H' a rows := let ⟨al, h1, h2⟩ := h; ⟨al, s _ _ h1, fun n hn => (h2 n hn).mono s⟩
theorem AboveH.r {H : Hp} {a : Addr} {rows : Rows} (h : AboveH H a rows) : AboveR H a rows := let ⟨al, h1, h2⟩ := h; ⟨al, .inl h1, h2⟩
theorem DLst.aboveH {G0 H : Hp} {D : Addr} {al : Name → Addr} {rows : Rows} (d : DLst G0 H D (names rows) al (abv rows)) : AboveH H D rows :=
  ⟨al, d.dc, fun n hn => let ⟨vs, h1, h2⟩ := d.ls n hn; ⟨vs, h1, h2.mono fun _ _ => NmR.mono msk_same⟩⟩
theorem eNames_le (rows : Rows) {a b : List Name} (h : a ++ b = names rows) : (eNames rows a).length ≤ (eNames rows (names rows)).length := by
  rw [← h, eNames_append, List.length_append]
  exact Nat.le_add_right _ _
theorem namesN_pre (rows : Rows) {k : Nat} (h : k ≤ rows.length) : ∃ b, namesN rows k ++ b = names rows := by
  unfold names
  obtain ⟨m, hm⟩ : ∃ m, rows.length = k + m := ⟨rows.length - k, by omega⟩
  rw [hm]
  clear h hm
  induction m with
  | zero => exact ⟨[], by simp⟩
  | succ m ih =>
    obtain ⟨b, hb⟩ := ih
    exact ⟨b ++ nmRow (k + m) (wid rows (k + m)), by rw [← List.append_assoc, hb]; rfl⟩
theorem nmRow_pre (r : Nat) {j k : Nat} (h : j ≤ k) : ∃ b, nmRow r j ++ b = nmRow r k := by
  induction h with
  | refl => exact ⟨[], by simp⟩
  | step _ ih =>
    obtain ⟨b, hb⟩ := ih
    exact ⟨b ++ [(r, _)], by rw [← List.append_assoc, hb, nmRow_succ]⟩
/-- the names ahead of a loop -/
theorem ahead_pre (rows : Rows) {i j : Nat} (hi : i < rows.length) (hj : j ≤ wid rows i) : ∃ b, namesN rows i ++ nmRow i j ++ b = names rows := by
  obtain ⟨b1, h1⟩ := namesN_pre rows (k := i + 1) hi
  obtain ⟨b2, h2⟩ := nmRow_pre i hj
  refine ⟨b2 ++ b1, ?_⟩
  rw [← h1]
  show _ = namesN rows i ++ nmRow i (wid rows i) ++ b1
  rw [← h2]
  simp only [List.append_assoc]
def spLawAbove : Sp := fun vs H Q _ => ∃ (ra : Addr) (d : WebD), vs = [.ref ra] ∧ RowsL H ra d.rows ∧ Small d ∧ Wf d.rows ∧ ∀ H' a, Same H H' → H a = none → AboveH H' a d.rows → Q (.ref a) H'
theorem sc_law_above : FnScope ["_law_rows_here", "_law_found", "_law_row", "_law_place", "_law_parent"] ["_law_rows_here"] (defScope s_law_above) := ⟨rfl, rfl, rfl, by decide +kernel, rfl, by decide +kernel, by decide +kernel⟩
theorem ok_law_above (Z : Zt K mg) : Cal P w K mg base "_law_above" 1 ["_law_rows_here"] spLawAbove := by
  obtain ⟨fd, F⟩ := Z.du_law_above
  refine ⟨Z.gl_law_above, F.kp, fd, F.ok sc_law_above (fun vs H Q E h => ?_) (fun cdv A outer s H vs Q E hr h => ?_), FunD.bindsN F fun _ _ _ _ _ _ us hl => match us, hl with | [_], _ => rfl⟩
  · obtain ⟨ra, d, rfl, _⟩ := h
    rfl
  · obtain ⟨ra, d, rfl, hrows, hsm, hwf, k⟩ := h
    have hu := hu_of hr
    have z1 := hsm.ed
    have z2 := hsm.nm
    have z3 := hsm.rw
    have hrows0 := hrows
    obtain ⟨rvs, hra, hrA⟩ := hrows
    have hrl := hrA.1
    refine ⟨_, PSs.nox (pss_cons (ps_set (i := 1) sc_law_above.nd rfl (Or.inl rfl) pe_dnewT)
      (pss_cons (ps_for PassesOwn.never rfl (pi_range1 (by rfl) Z.fr_range (pa_cons (pe_callB call_len_seq (by rfl) Z.fr_len PySem.boot_len (pa_cons (pv 0) pa_nil)) pa_nil)) (pg_name (i := 2) sc_law_above.nd rfl (Or.inl rfl)) (pss_one (ps_for PassesOwn.never rfl (pi_range1 (by rfl) Z.fr_range (pa_cons (pe_callB call_len_seq (by rfl) Z.fr_len PySem.boot_len (pa_cons (pe_ix ix_list (pv 0) (pv 2) (fun _ _ => rfl)) pa_nil)) pa_nil)) (pg_name (i := 3) sc_law_above.nd rfl (Or.inl rfl)) (pss_cons (ps_dput hu (pv 1) (pe_tup (pa_cons (pv 2) (pa_cons (pv 3) pa_nil))) (pe_lst pa_nil) rfl)
      (pss_one (ps_for PassesOwn.never rfl (pi_tup (pe_ix ix_tup (pe_ix ix_list (pe_ix ix_list (pv 0) (pv 2) (fun _ _ => rfl)) (pv 3) (fun _ _ => rfl)) pe_int (fun _ _ => rfl))) (pg_name (i := 4) sc_law_above.nd rfl (Or.inl rfl)) (pss_one (ps_expr (pe_bm PySem.F.plainAttrs_list PySem.F.slot_list_append PySem.F.type_list_append mt_append (pe_dget hu (pv 1) (pv 4) (fun _ _ => rfl)) (pa_cons (pe_tup (pa_cons (pv 2) (pa_cons (pv 3) pa_nil))) pa_nil))))))))))
      (pss_one (ps_ret (pv 1))))), ?_⟩
    -- found = {}
    intro D hD
    have hG : Same H (msk [D] (upd H D (.dT []))) := msk_into (sm_new hD) fun a ha => by rw [List.mem_singleton.mp ha]; exact hD
    have hpre : ∀ {i j : Nat}, i < d.rows.length → j ≤ wid d.rows i → (namesN d.rows i ++ nmRow i j).length ≤ 100000 ∧ (eNames d.rows (namesN d.rows i ++ nmRow i j)).length ≤ 40000 := fun {i j} hi hj => by
      obtain ⟨b, hb⟩ := ahead_pre d.rows hi hj
      refine ⟨?_, Nat.le_trans (eNames_le d.rows hb) z1⟩
      have := congrArg List.length hb
      rw [List.length_append] at this
      omega
    -- for row in range(len(rows))
    refine ⟨_, rfl, ra, rvs, rfl, .inl (SqL.of (sm_new hD _ _ hra)), _, rfl, by omega, by omega,
      for_range (lo := 0) (n := rvs.length) (fun i σ H' => ∃ (b1 b2 b3 : Option V) (al : Name → Addr), σ = [some (.ref ra), some (.ref D), b1, b2, b3] ∧ DLst H H' D (namesN d.rows i) al (drw (eNames d.rows (namesN d.rows i)))) ?_ ?_ ?_⟩
    · exact ⟨none, none, none, fun _ => 0, rfl, .init upd_same hG⟩
    · rintro i σ H' hi ⟨b1, b2, b3, al, rfl, hd⟩
      have hi' : i < d.rows.length := by omega
      obtain ⟨rr, rws, e1, e2, e3⟩ := row_at hrA hi'
      have hS : Same H H' := hd.st.trans msk_same
      -- for place in range(len(rows[row]))
      refine ⟨_, rfl, _, rfl, ra, rvs, _, _, rfl, rfl, SqL.of (hS _ _ hra), at_of (j := i) (by omega) e1, rr, rws, rfl, .inl (SqL.of (hS _ _ e2)), _, rfl, by omega, by have := (hpre hi' (Nat.le_refl _)).1; rw [List.length_append, length_nmRow] at this; omega,
        for_range (lo := 0) (n := rws.length) (fun j σ H' => ∃ (b2 b3 : Option V) (al : Name → Addr), σ = [some (.ref ra), some (.ref D), some (.int (0 + (i : Int))), b2, b3] ∧
          DLst H H' D (namesN d.rows i ++ nmRow i j) al (drw (eNames d.rows (namesN d.rows i ++ nmRow i j)))) ?_ ?_ ?_⟩
      · exact ⟨b2, b3, al, rfl, by simpa [nmRow] using hd⟩
      · rintro j σ H2 hj ⟨b2, b3, al, rfl, h2⟩
        have hj' : j < wid d.rows i := by rw [← e3]; exact hj
        have hnm : ((i, j) : Name) ∈ names d.rows := mem_names.mpr hj'
        have hnot : ((i, j) : Name) ∉ namesN d.rows i ++ nmRow i j := fun h => by
          rcases List.mem_append.mp h with h | h
          · exact absurd (mem_namesN.mp h).1 (Nat.lt_irrefl _)
          · exact absurd (mem_nmRow.mp h).2 (Nat.lt_irrefl _)
        have hempty : drw (eNames d.rows (namesN d.rows i ++ nmRow i j)) (i, j) = [] := by
          refine List.eq_nil_iff_forall_not_mem.mpr fun m hm => ?_
          obtain ⟨q1, q2⟩ := mem_eNames.mp (mem_drw.mp hm)
          obtain ⟨b, hb⟩ := ahead_pre d.rows hi' (Nat.le_of_lt hj')
          have q3 : m ∈ names d.rows := by rw [← hb]; exact List.mem_append_left _ q1
          have q4 := (hwf m q3 _ q2).1
          rcases List.mem_append.mp q1 with h | h
          · have := (mem_namesN.mp h).1; simp only at q4; omega
          · have := (mem_nmRow.mp h).1; simp only at q4; omega
        obtain ⟨rvs', r, rws', lt, pt, pvs, sd, lf, q1, q2, q3, q4, q5, q6, q7⟩ := rows_at hrows0 hnm
        have hS2 : Same H H2 := h2.st.trans msk_same
        -- found[row, place] = []
        refine ⟨Nat.zero_le _, fun p hp => ?_⟩
        refine ⟨_, rfl, _, rfl, _, rfl, (by show 2 ≤ sizeLine; decide), fun q hq => ?_⟩
        refine ⟨D, _, rfl, DPut.t (k := keyN (i, j)) (sm_new hq _ _ (sm_new hp _ _ h2.dc)) (newName (Int.zero_add _) (Int.zero_add _)) (by rw [dcl_length]; exact szt (hpre hi' (Nat.le_of_lt hj')).1), ?_⟩
        have h3 := h2.add hnot hp (sm_new (o := .tup [.int (0 + (i : Int)), .int (0 + (j : Int))]) hq) hempty
        have hS3 := h3.st.trans (msk_same (H := _))
        -- for parent in rows[row][place][0]
        have q7' : All2 (NmR H) pvs (par d.rows (i, j)) := q7
        refine ⟨_, rfl, _, rfl, ra, rvs', _, _, rfl, rfl, SqL.of (hS3 _ _ q1), at_of (j := i) (by omega) q2, _, rfl, r, rws', _, _, rfl, rfl, SqL.of (hS3 _ _ q3), at_of (j := j) (by omega) q4, lt, _, 0, _, rfl, rfl, SqT.of (hS3 _ _ q5), rfl, pt, rfl, ⟨_, SqT.of (hS3 _ _ q6)⟩,
          for_tup (K := K) (a := pt) (xs := pvs) (fun k σ H5 => ∃ b3 : Option V, σ = [some (.ref ra), some (.ref D), some (.int (0 + (i : Int))), some (.int (0 + (j : Int))), b3] ∧
            DLst H H5 D (namesN d.rows i ++ nmRow i j ++ [(i, j)]) (fun m => if m = (i, j) then p else al m) (drw (eNames d.rows (namesN d.rows i ++ nmRow i j) ++ ((par d.rows (i, j)).take k).map fun q => (q, (i, j))))) ?_ ?_ ?_ ?_⟩
        · exact ⟨b3, rfl, by simpa using h3⟩
        · rintro k σ H5 hk ⟨b3, rfl, h5⟩
          exact SqT.of ((h5.st.trans msk_same) _ _ q6)
        · rintro k y σ H5 hy ⟨b3, rfl, h5⟩
          obtain ⟨pn, ep, tp, rfl, htp⟩ := q7'.getV hy
          have hS5 := h5.st.trans (msk_same (H := H5))
          obtain ⟨w1, w2⟩ := hwf (i, j) hnm pn (List.mem_of_getElem? ep)
          have hpn : pn ∈ namesN d.rows i ++ nmRow i j ++ [(i, j)] := List.mem_append_left _ (List.mem_append_left _ (mem_namesN.mpr ⟨w1, mem_names.mp w2⟩))
          obtain ⟨vs, l1, l2⟩ := h5.ls pn hpn
          -- found[parent].append((row, place))
          refine ⟨_, rfl, _, rfl, D, _, rfl, h5.get hpn (hS5 _ _ htp), .inl ⟨rfl, _, SqL.of l1⟩, _, rfl, _, rfl, (by show 2 ≤ sizeLine; decide), fun q' hq' => ?_⟩
          have h6 := h5.ext (sm_new (o := .tup [.int (0 + (i : Int)), .int (0 + (j : Int))]) hq')
          have l1' := sm_new (o := .tup [.int (0 + (i : Int)), .int (0 + (j : Int))]) hq' _ _ l1
          have hlen : vs.length ≤ 100000 := by
            rw [l2.1]
            refine Nat.le_trans (drw_le _ _) ?_
            have e9 := (hpre hi' (j := j + 1) hj').2
            rw [nmRow_succ, ← List.append_assoc, eNames_append, eNames_one, List.length_append, List.length_map] at e9
            rw [List.length_append, List.length_map, List.length_take]
            omega
          refine ⟨_, vs, _, rfl, rfl, l1', szt hlen, _, rfl, ?_⟩
          have hq'M : q' ∉ D :: (namesN d.rows i ++ nmRow i j ++ [(i, j)]).map (fun m => if m = (i, j) then p else al m) := fun hm => by
            rcases List.mem_cons.mp hm with e | e
            · rw [e, h5.dc] at hq'; cases hq'
            · obtain ⟨n, hn, e⟩ := List.mem_map.mp e
              obtain ⟨ws, x1, _⟩ := h5.ls n hn
              rw [e, hq'] at x1; cases x1
          have h7 := h6.app hpn (v := .ref q') (m := (i, j)) ⟨q', rfl, by rw [msk_out hq'M]; exact newName (Int.zero_add _) (Int.zero_add _)⟩ l1'
          refine h7.congr fun m hm => ?_
          rw [take_snoc ep, List.map_append, ← List.append_assoc]
          show _ = drw (_ ++ [(pn, (i, j))]) m
          rw [drw_snoc]
          by_cases q : m = pn
          · rw [if_pos q, if_pos q.symm]
          · rw [if_neg q, if_neg fun z => q z.symm]
        · rintro σ H5 ⟨b3, rfl, h5⟩
          have e5 : (par d.rows (i, j)).take pvs.length = par d.rows (i, j) := List.take_of_length_le (by rw [q7'.1]; exact Nat.le_refl _)
          rw [e5] at h5
          refine ⟨_, _, (fun m => if m = (i, j) then p else al m), rfl, ?_⟩
          rw [nmRow_succ, ← List.append_assoc, eNames_append, eNames_one]
          exact h5
      · rintro σ H2 ⟨b2, b3, al, rfl, h2⟩
        rw [e3] at h2
        exact ⟨_, _, _, al, rfl, h2⟩
    · rintro σ H' ⟨b1, b2, b3, al, rfl, hd⟩
      rw [hrl] at hd
      exact ⟨_, rfl, k H' D (hd.st.trans msk_same) hD hd.aboveH⟩

/-! ### _law_ends -/
def endS (d : WebD) (n : Name) : Str := if n ∈ d.off then "off" else if n ∈ kpAll d then "kept" else "lies"
def EndsR (H : Hp) (a : Addr) (d : WebD) : Prop := ∃ ks f, Rd H a (.dT (dcl ks f)) ∧ (∀ n, n ∈ ks ↔ n ∈ heldL d) ∧ ∀ n, n ∈ ks → f n = .str (endS d n)
theorem EndsR.mono {H H' : Hp} {a : Addr} {d : WebD} (s : Same H H') (h : EndsR H a d) : EndsR H' a d := let ⟨ks, f, h1, h2⟩ := h; ⟨ks, f, rd_mono s h1, h2⟩
theorem EndsR.get {H : Hp} {a b : Addr} {d : WebD} {n : Name} (h : EndsR H a d) (hb : H b = some (.tup [.int n.1, .int n.2])) : DGet H a (.ref b) (if n ∈ heldL d then some (.str (endS d n)) else none) := by
  obtain ⟨ks, f, h1, h2, h3⟩ := h
  have := dget_n (n := n) h1 hb
  by_cases q : n ∈ heldL d
  · have q' := (h2 n).mpr q
    rw [if_pos q', h3 n q'] at this
    rw [if_pos q]
    exact this
  · rw [if_neg fun z => q ((h2 n).mp z)] at this
    rw [if_neg q]
    exact this
def fE (b c : List Name) : Name → V := fun n => if n ∈ c then .str "off" else if n ∈ b then .str "kept" else .str "lies"
theorem mem_snoc {l : List Name} {n m : Name} : m ∈ l ++ [n] ↔ m ∈ l ∨ m = n := by rw [List.mem_append, List.mem_singleton]
theorem fE_kept {l : List Name} {n m : Name} : (if m = n then V.str "kept" else fE l [] m) = fE (l ++ [n]) [] m := by
  unfold fE
  by_cases q : m = n
  · rw [if_pos q, if_neg (by simp), if_pos (mem_snoc.mpr (.inr q))]
  · have e : ∀ A B : V, (if m ∈ ([] : List Name) then A else B) = B := fun A B => if_neg (by simp)
    rw [if_neg q, e, e]
    by_cases c : m ∈ l
    · rw [if_pos c, if_pos (mem_snoc.mpr (.inl c))]
    · rw [if_neg c, if_neg fun z => (mem_snoc.mp z).elim c q]
theorem fE_off {b l : List Name} {n m : Name} : (if m = n then V.str "off" else fE b l m) = fE b (l ++ [n]) m := by
  unfold fE
  by_cases q : m = n
  · rw [if_pos q, if_pos (mem_snoc.mpr (.inr q))]
  · rw [if_neg q]
    by_cases c : m ∈ l
    · rw [if_pos c, if_pos (mem_snoc.mpr (.inl c))]
    · rw [if_neg c, if_neg fun z => (mem_snoc.mp z).elim c q]
def spLawEnds : Sp := fun vs H Q _ => ∃ (v : V) (d : WebD), vs = [v] ∧ WebR H v d ∧ Small d ∧ ∀ H' a, Same H H' → H a = none → EndsR H' a d → Q (.ref a) H'
theorem sc_law_ends : FnScope ["_law_web", "_law_ends_here", "_law_name_here", "_law_keeper", "_law_names"] ["_law_web"] (defScope s_law_ends) := ⟨rfl, rfl, rfl, by decide +kernel, rfl, by decide +kernel, by decide +kernel⟩
theorem ok_law_ends (Z : Zt K mg) : Cal P w K mg base "_law_ends" 1 ["_law_web"] spLawEnds := by
  obtain ⟨fd, F⟩ := Z.du_law_ends
  refine ⟨Z.gl_law_ends, F.kp, fd, F.ok sc_law_ends (fun vs H Q E h => ?_) (fun cdv A outer s H vs Q E hr h => ?_), FunD.bindsN F fun _ _ _ _ _ _ us hl => match us, hl with | [_], _ => rfl⟩
  · obtain ⟨v, d, rfl, _⟩ := h
    rfl
  · obtain ⟨v, d, rfl, hw, hsm, k⟩ := h
    have hu := hu_of hr
    obtain ⟨t, ra, la, ka, oa, rfl, hT, hrows, ⟨lvs, hl, hlA⟩, ⟨kvs, hk, hkA⟩, ⟨ovs, ho, hoA⟩⟩ := hw
    refine ⟨_, PSs.nox (pss_cons (ps_set (i := 1) sc_law_ends.nd rfl (Or.inl rfl) pe_dnewT)
      (pss_cons (ps_for PassesOwn.never rfl (pi_list (pe_ix ix_tup (pv 0) pe_int (fun _ _ => rfl))) (pg_name (i := 2) sc_law_ends.nd rfl (Or.inl rfl)) (pss_one (ps_dput hu (pv 1) (pv 2) pe_str rfl)))
      (pss_cons (ps_for PassesOwn.never rfl (pi_list (pe_ix ix_tup (pv 0) pe_int (fun _ _ => rfl))) (pg_tup (by rfl) (pgs_cons (pg_name (i := 3) sc_law_ends.nd rfl (Or.inl rfl)) (pgs_cons (pg_name (i := 4) sc_law_ends.nd rfl (Or.inl rfl)) pgs_nil))) (pss_one (ps_for PassesOwn.never rfl (pi_list (pv 4)) (pg_name (i := 2) sc_law_ends.nd rfl (Or.inl rfl)) (pss_one (ps_dput hu (pv 1) (pv 2) pe_str rfl)))))
      (pss_cons (ps_for PassesOwn.never rfl (pi_list (pe_ix ix_tup (pv 0) pe_int (fun _ _ => rfl))) (pg_name (i := 2) sc_law_ends.nd rfl (Or.inl rfl)) (pss_one (ps_dput hu (pv 1) (pv 2) pe_str rfl)))
      (pss_one (ps_ret (pv 1))))))), ?_⟩
    intro D hD
    have s1 := sm_new (o := .dT []) hD
    have z1 := hsm.ly
    have z2 := hsm.off
    have z3 := hsm.kp
    have hG : Same H (msk [D] (upd H D (.dT []))) := msk_into s1 fun a ha => by rw [List.mem_singleton.mp ha]; exact hD
    have hlen : ∀ l : List Name, l.length ≤ 90000 → (insAll [] l).length ≤ 100000 := fun l e => by
      have e2 := len_insAll (l := l) []
      simp only [List.length_nil] at e2
      omega
    -- for name in web[1]: lies
    refine ⟨_, rfl, t, _, 1, _, rfl, rfl, SqT.of (s1 _ _ hT), rfl, la, rfl, ⟨_, SqL.of (s1 _ _ hl)⟩,
      for_list (K := K) (a := la) (xs := lvs) (fun i σ H' => ∃ b : Option V, σ = [some (.ref t), some (.ref D), b, none, none] ∧ DFlg H H' D (insAll [] (d.ly.take i)) (fE [] [])) ?_ ?_ ?_ ?_⟩
    · exact ⟨none, rfl, hG, upd_same⟩
    · rintro i σ H' hi ⟨b, rfl, hd⟩
      exact SqL.of (hd.same _ _ hl)
    · rintro i x σ H' hx ⟨b, rfl, hd⟩
      obtain ⟨n, en, tn, rfl, htn⟩ := hlA.getV hx
      refine ⟨_, rfl, _, rfl, D, _, rfl, hd.dput (n := n) (hd.same _ _ htn) (hlen _ (by rw [List.length_take]; omega)), _, rfl, ?_⟩
      rw [take_snoc en, insAll_snoc]
      exact hd.put.congr fun m _ => by
        by_cases q : m = n
        · rw [if_pos q]; rfl
        · rw [if_neg q]
    · rintro σ H1 ⟨b, rfl, hd⟩
      have e0 : d.ly.take lvs.length = d.ly := List.take_of_length_le (by rw [hlA.1]; exact Nat.le_refl _)
      rw [e0] at hd
      -- for keeper, names in web[2]: kept
      refine ⟨_, rfl, t, _, 2, _, rfl, rfl, SqT.of (hd.same _ _ hT), rfl, ka, rfl, ⟨_, SqL.of (hd.same _ _ hk)⟩,
        for_list (K := K) (a := ka) (xs := kvs) (fun i σ H' => ∃ b1 b2 b3 : Option V, σ = [some (.ref t), some (.ref D), b1, b2, b3] ∧ DFlg H H' D (insAll [] (d.ly ++ (d.kp.take i).flatMap fun q => q.2)) (fE ((d.kp.take i).flatMap fun q => q.2) [])) ?_ ?_ ?_ ?_⟩
      · exact ⟨b, none, none, rfl, by simpa using hd⟩
      · rintro i σ H' hi ⟨b1, b2, b3, rfl, hd⟩
        exact SqL.of (hd.same _ _ hk)
      · rintro i x σ H' hx ⟨b1, b2, b3, rfl, hd⟩
        obtain ⟨q, eq, tq, a, rfl, htq, ns, hns, hnA⟩ := hkA.getV hx
        have ekp : d.kp = d.kp.take i ++ q :: d.kp.drop (i + 1) := by
          have := List.take_append_drop (i + 1) d.kp
          rw [take_snoc eq] at this
          simpa using this.symm
        have ekl : ((d.kp.take i).flatMap (fun q => q.2)).length + q.2.length ≤ 30000 := by
          have e1 : kpAll d = (d.kp.take i).flatMap (fun q => q.2) ++ q.2 ++ (d.kp.drop (i + 1)).flatMap (fun q => q.2) := by
            unfold kpAll
            conv => lhs; rw [ekp]
            rw [List.flatMap_append, List.flatMap_cons, List.append_assoc]
          have e2 := congrArg List.length e1
          rw [List.length_append, List.length_append] at e2
          omega
        refine ⟨tq, _, rfl, SqT.of (hd.same _ _ htq), rfl, _, _, rfl, _, _, rfl, rfl, ?_⟩
        -- for name in names
        refine ⟨_, rfl, a, rfl, ⟨_, SqL.of (hd.same _ _ hns)⟩,
          for_list (K := K) (a := a) (xs := ns) (fun j σ H' => ∃ b1 : Option V, σ = [some (.ref t), some (.ref D), b1, some (.str q.1.str), some (.ref a)] ∧
            DFlg H H' D (insAll [] (d.ly ++ (d.kp.take i).flatMap (fun q => q.2) ++ q.2.take j)) (fE ((d.kp.take i).flatMap (fun q => q.2) ++ q.2.take j) [])) ?_ ?_ ?_ ?_⟩
        · exact ⟨b1, rfl, by simpa using hd⟩
        · rintro j σ H2 hj ⟨b1, rfl, h2⟩
          exact SqL.of (h2.same _ _ hns)
        · rintro j y σ H2 hy ⟨b1, rfl, h2⟩
          obtain ⟨n, en, tn, rfl, htn⟩ := hnA.getV hy
          refine ⟨_, rfl, _, rfl, D, _, rfl, h2.dput (n := n) (h2.same _ _ htn) (hlen _ (by rw [List.length_append, List.length_append, List.length_take]; omega)), _, rfl, ?_⟩
          rw [take_snoc en, ← List.append_assoc, insAll_snoc, ← List.append_assoc]
          exact h2.put.congr fun m _ => fE_kept
        · rintro σ H2 ⟨b1, rfl, h2⟩
          have e2 : q.2.take ns.length = q.2 := List.take_of_length_le (by rw [hnA.1]; exact Nat.le_refl _)
          rw [e2] at h2
          refine ⟨_, _, _, rfl, ?_⟩
          have e3 : (d.kp.take (i + 1)).flatMap (fun q => q.2) = (d.kp.take i).flatMap (fun q => q.2) ++ q.2 := by rw [take_snoc eq, List.flatMap_append]; simp
          rw [e3, ← List.append_assoc]
          exact h2
      · rintro σ H2 ⟨b1, b2, b3, rfl, hd⟩
        have e2 : d.kp.take kvs.length = d.kp := List.take_of_length_le (by rw [hkA.1]; exact Nat.le_refl _)
        rw [e2] at hd
        -- for name in web[3]: off
        refine ⟨_, rfl, t, _, 3, _, rfl, rfl, SqT.of (hd.same _ _ hT), rfl, oa, rfl, ⟨_, SqL.of (hd.same _ _ ho)⟩,
          for_list (K := K) (a := oa) (xs := ovs) (fun i σ H' => ∃ b1 b2 b3 : Option V, σ = [some (.ref t), some (.ref D), b1, b2, b3] ∧ DFlg H H' D (insAll [] (d.ly ++ kpAll d ++ d.off.take i)) (fE (kpAll d) (d.off.take i))) ?_ ?_ ?_ ?_⟩
        · exact ⟨b1, b2, b3, rfl, by rw [List.take_zero, List.append_nil]; exact hd⟩
        · rintro i σ H' hi ⟨b1, b2, b3, rfl, hd⟩
          exact SqL.of (hd.same _ _ ho)
        · rintro i x σ H' hx ⟨b1, b2, b3, rfl, hd⟩
          obtain ⟨n, en, tn, rfl, htn⟩ := hoA.getV hx
          refine ⟨_, rfl, _, rfl, D, _, rfl, hd.dput (n := n) (hd.same _ _ htn) (hlen _ (by rw [List.length_append, List.length_append, List.length_take]; omega)), _, _, _, rfl, ?_⟩
          rw [take_snoc en, ← List.append_assoc, insAll_snoc]
          exact hd.put.congr fun m _ => fE_off
        · rintro σ H2 ⟨b1, b2, b3, rfl, hd⟩
          have e3 : d.off.take ovs.length = d.off := List.take_of_length_le (by rw [hoA.1]; exact Nat.le_refl _)
          rw [e3] at hd
          refine ⟨_, rfl, k H2 D hd.same hD ⟨_, _, .inl hd.dc, fun n => ?_, fun n _ => ?_⟩⟩
          · rw [mem_insAll]
            unfold heldL
            simp only [List.mem_append, List.not_mem_nil, false_or]
            constructor
            · rintro ((h | h) | h)
              · exact .inl (.inl h)
              · exact .inr h
              · exact .inl (.inr h)
            · rintro ((h | h) | h)
              · exact .inl (.inl h)
              · exact .inr h
              · exact .inl (.inr h)
          · unfold fE endS
            by_cases q1 : n ∈ d.off
            · rw [if_pos q1, if_pos q1]
            · rw [if_neg q1, if_neg q1]
              by_cases q2 : n ∈ kpAll d
              · rw [if_pos q2, if_pos q2]
              · rw [if_neg q2, if_neg q2]
end K34
set_option autoImplicit true
set_option Elab.async false
set_option linter.all false
set_option maxRecDepth 100000
set_option maxHeartbeats 4000000
namespace K34
open PySem PySem.Spec PyProof.Rows L2
variable {P : Program} {w : World} {K : PySem.W.Frag} {mg : Str → Option Value} {base : Heap}

/-! ### walks over the drawers' dict -/
theorem dcl_at {ns : List Name} {f : Name → V} {i : Nat} {k : List Key} {v : V} (h : (dcl ns f)[i]? = some (k, v)) : ∃ n, ns[i]? = some n ∧ k = keyN n := by
  unfold dcl at h
  rw [List.getElem?_map] at h
  cases e : ns[i]? with
  | none => rw [e] at h; cases h
  | some n =>
    rw [e] at h
    have h2 : (keyN n, f n) = (k, v) := Option.some.inj h
    exact ⟨n, rfl, (congrArg Prod.fst h2).symm⟩
/-- what was locked stands again -/
theorem unlock_same {H H2 : Hp} {a : Addr} {u f : HO} (h : H a = some u) (s : Same (upd H a f) H2) : Same H (upd H2 a u) := fun b o e => by
  by_cases q : b = a
  · subst q
    rw [h] at e
    rw [upd_same, ← e]
  · rw [upd_ne q]
    exact s _ _ (by rw [upd_ne q]; exact e)
theorem lock_get {H : Hp} {a b : Addr} {u f o : HO} (h : H b = some o) (hne : ∀ z, o ≠ z ∨ a ≠ b ∨ True) (n : b ≠ a) : (upd H a f) b = some o := by rw [upd_ne n]; exact h
theorem isD_of {H : Hp} {a : Addr} {d : WebD} (h : EndsR H a d) : IsD H a := let ⟨_, _, h1, _⟩ := h; .inr ⟨_, h1⟩
/-- the drawers' dict under a lock -/
theorem AboveH.lock {H : Hp} {a : Addr} {rows : Rows} {al : Name → Addr} {od : Obj} (h1 : H a = some (.dT (dcl (names rows) fun n => .ref (al n)))) (h2 : ∀ n, n ∈ names rows → NmsL H (al n) (abv rows n)) :
    AboveR (upd H a (.frz od (.dT (dcl (names rows) fun n => .ref (al n))))) a rows := by
  refine ⟨al, .inr ⟨od, upd_same⟩, fun n hn => ?_⟩
  obtain ⟨vs, q1, q2⟩ := h2 n hn
  refine ⟨vs, by rw [upd_ne (ne_of q1 h1 (by intro z; cases z))]; exact q1, q2.mono fun v x ⟨t, e, ht⟩ => ⟨t, e, ?_⟩⟩
  rw [upd_ne (ne_of ht h1 (by intro z; cases z))]
  exact ht
theorem EndsR.lock {H : Hp} {a e : Addr} {d : WebD} {u f : HO} (h : EndsR H e d) (hne : e ≠ a) : EndsR (upd H a f) e d := by
  obtain ⟨ks, g, h1, h2⟩ := h
  refine ⟨ks, g, ?_, h2⟩
  rcases h1 with h1 | ⟨o, h1⟩
  · exact .inl (by rw [upd_ne hne]; exact h1)
  · exact .inr ⟨o, by rw [upd_ne hne]; exact h1⟩
theorem FlagR.lock {H : Hp} {a e : Addr} {l : List Name} {f : HO} (h : FlagR H e l) (hne : e ≠ a) : FlagR (upd H a f) e l := by
  obtain ⟨ks, h1, h2⟩ := h
  refine ⟨ks, ?_, h2⟩
  rcases h1 with h1 | ⟨o, h1⟩
  · exact .inl (by rw [upd_ne hne]; exact h1)
  · exact .inr ⟨o, by rw [upd_ne hne]; exact h1⟩

/-! ### _law_ties_hold -/
structure TiesOk (d : WebD) : Prop where
  free : ∀ n, n ∈ names d.rows → n ∉ heldL d → abv d.rows n ≠ []
  ends : ∀ n, n ∈ names d.rows → n ∈ heldL d → endS d n ≠ "off" → abv d.rows n = []
def spTies : Sp := fun vs H Q _ => ∃ (a e : Addr) (d : WebD), vs = [.ref a, .ref e] ∧ AboveH H a d.rows ∧ EndsR H e d ∧ e ≠ a ∧ TiesOk d ∧ ∀ H', Same H H' → Q (.bl true) H'
theorem sc_law_ties_hold : FnScope ["_law_above_here", "_law_ends_here", "_law_name_here"] ["_law_above_here", "_law_ends_here"] (defScope s_law_ties_hold) := ⟨rfl, rfl, rfl, by decide +kernel, rfl, by decide +kernel, by decide +kernel⟩
theorem ok_law_ties_hold (Z : Zt K mg) : Cal P w K mg base "_law_ties_hold" 1 ["_law_above_here", "_law_ends_here"] spTies := by
  obtain ⟨fd, F⟩ := Z.du_law_ties_hold
  refine ⟨Z.gl_law_ties_hold, F.kp, fd, F.ok sc_law_ties_hold (fun vs H Q E h => ?_) (fun cdv A outer s H vs Q E hr h => ?_), FunD.bindsN F fun _ _ _ _ _ _ us hl => match us, hl with | [_, _], _ => rfl⟩
  · obtain ⟨a, e, d, rfl, _⟩ := h
    rfl
  · obtain ⟨a, e, d, rfl, ⟨al, hal, halN⟩, hE, hne, hT, k⟩ := h
    have hu := hu_of hr
    refine ⟨_, PSs.nox (pss_cons (ps_lock (ps_for PassesOwn.never rfl (pi_keys (pv 0)) (pg_name (i := 2) sc_law_ties_hold.nd rfl (Or.inl rfl)) (pss_cons (ps_if (PW.pt (pw_and (pt_cmp (pc_dnotin hu (pv 2) (pv 1))) (pw_and1 (pt_cmpR (op_eqD hr.units) (pe_dget hu (pv 0) (pv 2) (fun _ _ => rfl)) (pe_lst pa_nil) (nomark _))))) (pss_one (ps_ret pe_bl)) pss_nil)
      (pss_one (ps_if (PW.pt (pw_and (pt_cmpR op_ne (pe_dget2 hu (pv 1) (pv 2) pe_str ⟨rfl, rfl, rfl, rfl⟩) pe_str (nomark _)) (pw_and1 (pt_cmpR (op_neD hr.units) (pe_dget hu (pv 0) (pv 2) (fun _ _ => rfl)) (pe_lst pa_nil) (nomark _))))) (pss_one (ps_ret pe_bl)) pss_nil)))))
      (pss_one (ps_ret pe_bl))), ?_⟩
    -- for name in above
    refine ⟨a, _, hal, True.intro, fun od => ?_⟩
    have hAL : AboveR (upd H a (.frz od (.dT (dcl (names d.rows) fun n => .ref (al n))))) a d.rows := AboveH.lock hal halN
    have hEL : EndsR (upd H a (.frz od (.dT (dcl (names d.rows) fun n => .ref (al n))))) e d := hE.lock (u := .lst []) hne
    refine ⟨_, rfl, a, od, rfl, .inr ⟨_, upd_same, for_it walk_keysT (fun i σ H' => ∃ b : Option V, σ = [some (.ref a), some (.ref e), b] ∧ Same (upd H a (.frz od (.dT (dcl (names d.rows) fun n => .ref (al n))))) H') ?_ ?_ ?_ ?_⟩⟩
    · exact ⟨none, rfl, Same.refl _⟩
    · rintro i σ H' hi ⟨b, rfl, hS⟩
      exact hS _ _ upd_same
    · rintro i x σ H' H2 hi ⟨b, rfl, hS⟩ ⟨rfl, kk, v, q, hkv, rfl, hq⟩
      obtain ⟨n, en, rfl⟩ := dcl_at hkv
      have nn : n ∈ names d.rows := List.mem_of_getElem? en
      have hq' : H2 q = some (.tup [.int n.1, .int n.2]) := hq
      have hE2 := hEL.mono hS
      -- what stands behind the first if
      have rest : ∀ H6, Same H2 H6 → ∃ o, DGet H6 e (.ref q) o ∧ IsD H6 e ∧ o = (if n ∈ heldL d then some (.str (endS d n)) else none) ∧ DGet H6 a (.ref q) (some (.ref (al n))) ∧ NmsL H6 (al n) (abv d.rows n) := fun H6 s6 => by
        have hE6 := hE2.mono s6
        refine ⟨_, hE6.get (n := n) (s6 _ _ hq'), isD_of hE6, rfl, ?_, ?_⟩
        · have := dget_n (f := fun n => V.ref (al n)) (ns := names d.rows) (H := H6) (.inr ⟨od, (hS.trans s6) _ _ upd_same⟩) (s6 _ _ hq')
          rwa [if_pos nn] at this
        · obtain ⟨vs, x1, x2⟩ := halN n nn
          refine NmsL.mono (hS.trans s6) ⟨vs, by rw [upd_ne (ne_of x1 hal (by intro z; cases z))]; exact x1, x2.mono fun v x ⟨t, e, ht⟩ => ⟨t, e, by rw [upd_ne (ne_of ht hal (by intro z; cases z))]; exact ht⟩⟩
      obtain ⟨o, g1, g2, g3, g4, g5⟩ := rest H2 (Same.refl _)
      refine ⟨_, rfl, _, rfl, e, o, rfl, g1, _, rfl, ?_⟩
      by_cases c : n ∈ heldL d
      · rw [g3, if_pos c]
        refine iteF (iteF ?_)
        refine ⟨_, rfl, e, rfl, g2, _, rfl, o, g1, ?_⟩
        rw [g3, if_pos c]
        refine ⟨rfl, _, rfl, ?_⟩
        by_cases c2 : endS d n = "off"
        · have e1 : (!decide (V.str (endS d n) = V.str "off")) = false := by rw [c2]; simp
          show if (!decide (V.str (endS d n) = V.str "off")) = true then _ else _
          rw [e1]
          exact iteF (iteF ⟨_, rfl, hS⟩)
        · have e1 : (!decide (V.str (endS d n) = V.str "off")) = true := by simp [c2]
          show if (!decide (V.str (endS d n) = V.str "off")) = true then _ else _
          rw [e1]
          refine iteT ?_
          refine ⟨_, rfl, _, rfl, a, _, rfl, g4, Nat.zero_le _, fun p hp => ?_⟩
          have s6 : Same H2 (upd H2 p (.lst [])) := sm_new hp
          refine ⟨_, _, dp_names (g5.mono s6), dp_nil upd_same, shaped_names _, shaped_names [], _, rfl, ?_⟩
          rw [eqv_names, decide_eq_true (hT.ends n nn c c2)]
          exact iteF ⟨_, rfl, hS.trans s6⟩
      · rw [g3, if_neg c]
        refine iteT ?_
        refine ⟨_, rfl, _, rfl, a, _, rfl, g4, Nat.zero_le _, fun p hp => ?_⟩
        have s6 : Same H2 (upd H2 p (.lst [])) := sm_new hp
        refine ⟨_, _, dp_names (g5.mono s6), dp_nil upd_same, shaped_names _, shaped_names [], _, rfl, ?_⟩
        rw [eqv_names, decide_eq_false (hT.free n nn c)]
        refine iteF ?_
        obtain ⟨o, g1, g2, g3, g4, g5⟩ := rest _ s6
        refine ⟨_, rfl, e, rfl, g2, _, rfl, o, g1, ?_⟩
        rw [g3, if_neg c]
        refine ⟨rfl, _, rfl, ?_⟩
        have e1 : (!decide (V.str "off" = V.str "off")) = false := by simp
        show if (!decide (V.str "off" = V.str "off")) = true then _ else _
        rw [e1]
        exact iteF (iteF ⟨_, rfl, hS.trans s6⟩)
    · rintro σ H' ⟨b, rfl, hS⟩
      exact ⟨hS _ _ upd_same, k _ (unlock_same hal hS)⟩

/-! ### a comprehension that keeps some names of a list -/
theorem lc_filter {a D : Addr} {avs : List V} {ns : List Name} {H1 : Hp} {vs : List Nat} {j : Nat} {tt : TT} {σ : L2.St} {Qd : Hp → Prop} (keep : Name → Bool) (ha : H1 a = some (.lst avs)) (hA : All2 (NmR H1) avs ns) (hz : ns.length ≤ 100000) (hD : H1 D = none)
    (hw : ∀ x, wipe ((wipe σ vs).set j (some x)) vs = wipe σ vs) (hj : ∀ x, ((wipe σ vs).set j (some x))[j]? = some (some x))
    (hs : ∀ n t H5, n ∈ ns → Same H1 H5 → H5 t = some (.tup [.int n.1, .int n.2]) → ∀ Q : Bool → Hp → Prop, Q (keep n) H5 → tt ((wipe σ vs).set j (some (.ref t))) H5 Q)
    (hd : ∀ H5 ws, Same H1 H5 → H5 D = some (.lst ws) → All2 (NmR H1) ws (ns.filter keep) → Qd H5) :
    ∃ W : Nat → Nat → Hp → Prop, (∃ m, W 0 m (upd H1 D (.lst []))) ∧ ∀ i m H, W i m H →
      ((Itl K a).stop i H ∧ Qd H) ∨ ((Itl K a).go i H ∧ ∃ Nx : Hp → Prop, (∀ H', Nx H' → ∃ m', m' < m ∧ W (i + 1) m' H') ∧ ∀ x H', (Itl K a).yld i H x H' → gName j x (wipe σ vs) H' fun σ2 H2 => wipe σ2 vs = wipe σ vs ∧ tt σ2 H2 fun b H3 =>
        if b = true then tVar j σ2 H3 fun y H4 => ∃ acc, H4 D = some (.lst acc) ∧ acc.length < sizeLine ∧ Nx (upd H4 D (.lst (acc ++ [y]))) else Nx H3) := by
  refine lc_list (K := K) (a := a) (xs := avs) (fun j H5 => Same H1 H5 ∧ ∃ ws, H5 D = some (.lst ws) ∧ All2 (NmR H1) ws ((ns.take j).filter keep)) ?_ ?_ ?_ ?_
  · exact ⟨sm_new hD, [], upd_same, .nil⟩
  · rintro j H5 hj ⟨q1, _⟩
    exact SqL.of (q1 _ _ ha)
  · rintro i x H5 hx ⟨q1, ws, q2, q3⟩
    obtain ⟨m, em, tm, rfl, htm⟩ := hA.getV hx
    refine ⟨hw _, hs m tm H5 (List.mem_of_getElem? em) q1 (q1 _ _ htm) _ ?_⟩
    cases e : keep m with
    | true =>
      refine ⟨_, hj _, ws, q2, ?_, sm_upd q1 hD, _, upd_same, ?_⟩
      · rw [q3.1]
        have h1 := List.length_filter_le keep (ns.take i)
        rw [List.length_take] at h1
        exact szt (by omega)
      · rw [take_snoc em, List.filter_append]
        have e5 : List.filter keep [m] = [m] := by simp [e]
        rw [e5]
        exact q3.snoc ⟨tm, rfl, htm⟩
    | false =>
      refine iteF ⟨q1, ws, q2, ?_⟩
      rw [take_snoc em, List.filter_append]
      have e5 : List.filter keep [m] = [] := by simp [e]
      rw [e5, List.append_nil]
      exact q3
  · rintro H5 ⟨q1, ws, q2, q3⟩
    have e5 : ns.take avs.length = ns := List.take_of_length_le (by rw [hA.1]; exact Nat.le_refl _)
    rw [e5] at q3
    exact hd H5 ws q1 q2 q3

/-! ### _law_falls -/
structure FallsOk (d : WebD) (tl : List Name) : Prop where
  fall : ∀ n, n ∈ names d.rows → ((if n ∈ heldL d then endS d n = "lies" else ∀ m, m ∈ abv d.rows n → m ∈ tl) ↔ n ∈ tl)
  nd : tl.Nodup
  sub : ∀ n, n ∈ tl → n ∈ names d.rows
theorem insAll_nd : ∀ {l ks : List Name}, (ks ++ l).Nodup → insAll ks l = ks ++ l
  | [], ks, _ => by simp [insAll]
  | n :: l, ks, h => by
    have h1 : n ∉ ks := fun hm => (List.nodup_append.mp h).2.2 n hm n List.mem_cons_self rfl
    show insAll (insK ks n) l = _
    unfold insK
    rw [if_neg h1, insAll_nd (by rw [List.append_assoc]; exact h), List.append_assoc]
    rfl
def spFalls : Sp := fun vs H Q _ => ∃ (a e t : Addr) (d : WebD) (tl : List Name), vs = [.ref a, .ref e, .ref t] ∧ AboveH H a d.rows ∧ EndsR H e d ∧ e ≠ a ∧ NmsL H t tl ∧ tl.length ≤ 100000 ∧ Small d ∧ FallsOk d tl ∧ ∀ H', Same H H' → Q (.bl true) H'
theorem sc_law_falls : FnScope ["_law_above_here", "_law_ends_here", "_law_told", "_law_gone", "_law_name_here", "_law_falls_here", "_law_drawer"] ["_law_above_here", "_law_ends_here", "_law_told"] (defScope s_law_falls) := ⟨rfl, rfl, rfl, by decide +kernel, rfl, by decide +kernel, by decide +kernel⟩
theorem ok_law_falls (Z : Zt K mg) : Cal P w K mg base "_law_falls" 1 ["_law_above_here", "_law_ends_here", "_law_told"] spFalls := by
  obtain ⟨fd, F⟩ := Z.du_law_falls
  refine ⟨Z.gl_law_falls, F.kp, fd, F.ok sc_law_falls (fun vs H Q E h => ?_) (fun cdv A outer s H vs Q E hr h => ?_), FunD.bindsN F fun _ _ _ _ _ _ us hl => match us, hl with | [_, _, _], _ => rfl⟩
  · obtain ⟨a, e, t, d, tl, rfl, _⟩ := h
    rfl
  · obtain ⟨a, e, t, d, tl, rfl, hA, hE, hne, ⟨tvs, ht, htA⟩, htl, hsm, hF, k⟩ := h
    have hu := hu_of hr
    have z1 := hsm.ed
    have z2 := hsm.nm
    refine ⟨_, PSs.nox (pss_cons (ps_set (i := 3) sc_law_falls.nd rfl (Or.inr rfl) pe_dnewT)
      (pss_cons (ps_for PassesOwn.never rfl (pi_list (pv 2)) (pg_name (i := 4) sc_law_falls.nd rfl (Or.inl rfl)) (pss_one (ps_dput hu (pv 3) (pv 4) pe_bl rfl)))
      (pss_cons (ps_lock (ps_for PassesOwn.never rfl (pi_keys (pv 0)) (pg_name (i := 4) sc_law_falls.nd rfl (Or.inl rfl)) (pss_cons (ps_set (i := 5) sc_law_falls.nd rfl (Or.inl rfl) (pe_cmpR op_eq (pe_dget2 hu (pv 1) (pv 4) pe_str ⟨rfl, rfl, rfl, rfl⟩) pe_str (nomark _)))
      (Evl.pss_cut (ps_if (pt_cmp (pc_dnotin hu (pv 4) (pv 1))) (pss_one (ps_set (i := 5) sc_law_falls.nd rfl (Or.inl rfl) (pe_cmpR (op_eqD hr.units) (pe_lc (own := [("_law_drawer", 6)]) (by rfl) sc_law_falls.nd (pi_list (pe_dget hu (pv 0) (pv 4) (fun _ _ => rfl))) (blkOk_by (own := [("_law_drawer", 6)]) (N := ["_law_above_here", "_law_ends_here", "_law_told", "_law_gone", "_law_name_here", "_law_falls_here", "_law_drawer"]) (sc := defScope s_law_falls) (by decide +kernel)) (fun _ _ _ _ _ => (pg_name (i := 6) sc_law_falls.nd rfl (Or.inl rfl) (Or.inr rfl))) (fun _ _ _ _ _ => (pts_one (pt_cmp (pc_dnotin hu (pv 6) (pv 3))))) (fun _ _ _ _ _ => (pv 6))) (pe_lst pa_nil) (nomark _)))) pss_nil)
      (pss_one (ps_if (pt_cmpR op_ne (pv 5) (pe_cmp (pc_din hu (pv 4) (pv 3))) (nomark _)) (pss_one (ps_ret pe_bl)) pss_nil))))))
      (pss_one (ps_ret (pe_and (pe_cmpR op_eq (pe_callB call_len_dT (by rfl) Z.fr_len PySem.boot_len (pa_cons (pv 3) pa_nil)) (pe_callB call_len_seq (by rfl) Z.fr_len PySem.boot_len (pa_cons (pv 2) pa_nil)) (nomark _)) (pe_one (pe_cmpR (op_eqD hr.units) (pe_lc (own := [("_law_name_here", 4)]) (by rfl) sc_law_falls.nd (pi_list (pv 2)) (blkOk_by (own := [("_law_name_here", 4)]) (N := ["_law_above_here", "_law_ends_here", "_law_told", "_law_gone", "_law_name_here", "_law_falls_here", "_law_drawer"]) (sc := defScope s_law_falls) (by decide +kernel)) (fun _ _ _ _ _ => (pg_name (i := 4) sc_law_falls.nd rfl (Or.inl rfl) (Or.inr rfl))) (fun _ _ _ _ _ => (pts_one (pt_cmp (pc_dnotin hu (pv 4) (pv 0))))) (fun _ _ _ _ _ => (pv 4))) (pe_lst pa_nil) (nomark _))))))))), ?_⟩
    -- gone = {}
    intro D hD
    have hG : Same H (msk [D] (upd H D (.dT []))) := msk_into (sm_new hD) fun a ha => by rw [List.mem_singleton.mp ha]; exact hD
    -- for name in told
    refine ⟨_, rfl, t, rfl, ⟨_, SqL.of (sm_new hD _ _ ht)⟩,
      for_list (K := K) (a := t) (xs := tvs) (fun i σ H' => ∃ b : Option V, σ = [some (.ref a), some (.ref e), some (.ref t), some (.ref D), b, none, none] ∧ DFlg H H' D (insAll [] (tl.take i)) tru) ?_ ?_ ?_ ?_⟩
    · exact ⟨none, rfl, hG, upd_same⟩
    · rintro i σ H' hi ⟨b, rfl, hd⟩
      exact SqL.of (hd.same _ _ ht)
    · rintro i x σ H' hx ⟨b, rfl, hd⟩
      obtain ⟨n, en, tn, rfl, htn⟩ := htA.getV hx
      refine ⟨_, rfl, _, rfl, D, _, rfl, hd.dput (n := n) (hd.same _ _ htn) (by have := len_insAll (l := tl.take i) []; simp only [List.length_nil, List.length_take] at this; omega), _, rfl, ?_⟩
      rw [take_snoc en, insAll_snoc]
      exact hd.putT
    · rintro σ H1 ⟨b, rfl, hd⟩
      have e0 : tl.take tvs.length = tl := List.take_of_length_le (by rw [htA.1]; exact Nat.le_refl _)
      have e1 : insAll [] tl = tl := insAll_nd (by simpa using hF.nd)
      rw [e0, e1] at hd
      have hgo : FlagR H1 D tl := ⟨tl, .inl hd.dc, fun n => Iff.rfl⟩
      have hDa : D ≠ a := by
        obtain ⟨al, h1, _⟩ := hA
        exact fun q => by rw [q, h1] at hD; cases hD
      have hE1 := hE.mono hd.same
      have hA1 := hA.mono hd.same
      obtain ⟨al, hal, halN⟩ := hA1
      -- for name in above
      refine ⟨a, _, hal, True.intro, fun od => ?_⟩
      have hEL : EndsR (upd H1 a (.frz od (.dT (dcl (names d.rows) fun n => .ref (al n))))) e d := hE1.lock (u := .lst []) hne
      have hGL : FlagR (upd H1 a (.frz od (.dT (dcl (names d.rows) fun n => .ref (al n))))) D tl := hgo.lock hDa
      refine ⟨_, rfl, a, od, rfl, .inr ⟨_, upd_same, for_it walk_keysT (fun i σ H' => ∃ b1 b2 : Option V, σ = [some (.ref a), some (.ref e), some (.ref t), some (.ref D), b1, b2, none] ∧ Same (upd H1 a (.frz od (.dT (dcl (names d.rows) fun n => .ref (al n))))) H') ?_ ?_ ?_ ?_⟩⟩
      · exact ⟨b, none, rfl, Same.refl _⟩
      · rintro i σ H' hi ⟨b1, b2, rfl, hS⟩
        exact hS _ _ upd_same
      · rintro i x σ H' H2 hi ⟨b1, b2, rfl, hS⟩ ⟨rfl, kk, v, q, hkv, rfl, hq⟩
        obtain ⟨n, en, rfl⟩ := dcl_at hkv
        have nn : n ∈ names d.rows := List.mem_of_getElem? en
        have hq' : H2 q = some (.tup [.int n.1, .int n.2]) := hq
        have hE2 := hEL.mono hS
        have hf := hF.fall n nn
        -- falls_here = ends.get(name, '') == 'lies'
        refine ⟨_, rfl, e, rfl, isD_of hE2, _, rfl, _, hE2.get (n := n) hq', ?_⟩
        refine ⟨by by_cases c : n ∈ heldL d <;> simp [c] <;> rfl, ?_⟩
        -- if name not in ends
        refine ⟨fun σ' H' => σ' = [some (.ref a), some (.ref e), some (.ref t), some (.ref D), some (.ref q), some (.bl (decide (n ∈ tl))), none] ∧ Same H2 H', ?_, ?_⟩
        · refine ⟨_, rfl, _, rfl, e, _, rfl, hE2.get (n := n) hq', _, rfl, ?_⟩
          by_cases c : n ∈ heldL d
          · rw [if_pos c] at hf ⊢
            refine iteF ⟨?_, Same.refl _⟩
            have e2 : decide ((Option.getD (some (V.str (endS d n))) (V.str "")) = V.str "lies") = decide (n ∈ tl) := by
              show decide (V.str (endS d n) = V.str "lies") = decide (n ∈ tl)
              by_cases q1 : n ∈ tl
              · rw [decide_eq_true q1, hf.mpr q1]; simp
              · rw [decide_eq_false q1]
                exact decide_eq_false fun z => q1 (hf.mp (V.str.inj z))
            rw [e2]
            rfl
          · rw [if_neg c] at hf ⊢
            refine iteT ?_
            have hga := dget_n (f := fun n => V.ref (al n)) (ns := names d.rows) (H := H2) (.inr ⟨od, hS _ _ upd_same⟩) hq'
            rw [if_pos nn] at hga
            obtain ⟨avs, ha, haA⟩ : NmsL H2 (al n) (abv d.rows n) := by
              obtain ⟨vs, x1, x2⟩ := halN n nn
              refine NmsL.mono hS ⟨vs, by rw [upd_ne (ne_of x1 hal (by intro z; cases z))]; exact x1, x2.mono fun v x ⟨t, e, ht⟩ => ⟨t, e, by rw [upd_ne (ne_of ht hal (by intro z; cases z))]; exact ht⟩⟩
            refine ⟨_, rfl, _, rfl, a, _, rfl, hga, al n, rfl, ⟨_, SqL.of ha⟩, fun Dl hDl => lc_filter (fun m => !decide (m ∈ tl)) ha haA (by have := abv_le d.rows n; omega) hDl (fun x => rfl) (fun x => rfl) ?_ ?_⟩
            · rintro m tm H5 hm s5 htm Q5 hQ
              obtain ⟨o, g1, g2⟩ := ((hGL.mono hS).mono s5).get (n := m) htm
              refine ⟨_, rfl, _, rfl, D, o, rfl, g1, _, rfl, ?_⟩
              rw [g2]
              exact hQ
            · rintro H5 ws s5 hws hwA
              refine ⟨Nat.zero_le _, fun p hp => ?_⟩
              refine ⟨_, _, dp_names ⟨ws, sm_new hp _ _ hws, hwA.mono fun v x => NmR.mono (s5.trans (sm_new hp))⟩, dp_nil upd_same, shaped_names _, shaped_names [], ?_, s5.trans (sm_new hp)⟩
              rw [eqv_names]
              have e2 : decide (List.filter (fun m => !decide (m ∈ tl)) (abv d.rows n) = []) = decide (n ∈ tl) := by
                by_cases q1 : n ∈ tl
                · rw [decide_eq_true q1]
                  refine decide_eq_true (List.filter_eq_nil_iff.mpr fun m hm => ?_)
                  have := hf.mpr q1 m hm
                  simp [this]
                · rw [decide_eq_false q1]
                  refine decide_eq_false fun z => q1 (hf.mp fun m hm => ?_)
                  have := List.filter_eq_nil_iff.mp z m hm
                  simpa using this
              rw [e2]
              rfl
        · rintro σ' H6 ⟨rfl, s6⟩
          -- if falls_here != (name in gone)
          obtain ⟨o, g1, g2⟩ := ((hGL.mono hS).mono s6).get (n := n) (s6 _ _ hq')
          refine ⟨_, rfl, _, rfl, _, rfl, D, o, rfl, g1, rfl, _, rfl, ?_⟩
          rw [g2]
          have e2 : (!decide (V.bl (decide (n ∈ tl)) = V.bl (decide (n ∈ tl)))) = false := by simp
          show if (!decide (V.bl (decide (n ∈ tl)) = V.bl (decide (n ∈ tl)))) = true then _ else _
          rw [e2]
          exact iteF ⟨_, _, rfl, hS.trans s6⟩
      · rintro σ H' ⟨b1, b2, rfl, hS⟩
        refine ⟨hS _ _ upd_same, ?_⟩
        have s3 : Same H1 (upd H' a (.dT (dcl (names d.rows) fun n => .ref (al n)))) := unlock_same hal hS
        have s4 := hd.same.trans s3
        -- return len(gone) == len(told) and [..] == []
        refine ⟨_, rfl, D, _, rfl, s3 _ _ hd.dc, _, rfl, t, _, rfl, .inl (SqL.of (s4 _ _ ht)), rfl, _, rfl, ?_⟩
        have e2 : decide (V.int (((dcl tl tru).length : Nat) : Int) = V.int ((tvs.length : Nat) : Int)) = true := by rw [dcl_length, htA.1]; simp
        show if decide (V.int (((dcl tl tru).length : Nat) : Int) = V.int ((tvs.length : Nat) : Int)) = true then _ else _
        rw [e2]
        refine iteT ?_
        refine ⟨_, rfl, t, rfl, ⟨_, SqL.of (s4 _ _ ht)⟩, fun Dl hDl => lc_filter (fun m => !decide (m ∈ names d.rows)) (s4 _ _ ht) (htA.mono fun v x => NmR.mono s4) htl hDl (fun x => rfl) (fun x => rfl) ?_ ?_⟩
        · rintro m tm H5 hm s5 htm Q5 hQ
          have hga := dget_n (n := m) (f := fun n => V.ref (al n)) (ns := names d.rows) (H := H5) (.inl (s5 _ _ upd_same)) htm
          refine ⟨_, rfl, _, rfl, a, _, rfl, hga, _, rfl, ?_⟩
          have mm := hF.sub m hm
          rw [if_pos mm]
          rw [decide_eq_true mm] at hQ
          exact hQ
        · rintro H5 ws s5 hws hwA
          refine ⟨Nat.zero_le _, fun p hp => ?_⟩
          refine ⟨_, _, dp_names ⟨ws, sm_new hp _ _ hws, hwA.mono fun v x => NmR.mono (s5.trans (sm_new hp))⟩, dp_nil upd_same, shaped_names _, shaped_names [], ?_⟩
          rw [eqv_names]
          have e3 : List.filter (fun m => !decide (m ∈ names d.rows)) tl = [] := List.filter_eq_nil_iff.mpr fun m hm => by simp [hF.sub m hm]
          rw [e3]
          exact k _ ((s4.trans s5).trans (sm_new hp))

/-! ### _law_walked -/
theorem cut1 {α : Type} (vs : List V) (h : 1 ≤ vs.length) : cutV vs none (some 1) = vs.take 1 := by
  unfold cutV
  have e1 : HT.sIx vs.length 0 none = 0 := HT.sIx_none _ _
  have e2 : HT.sIx vs.length vs.length (some (1 : Int)) = min 1 vs.length := HT.sIx_nat _ _ 1
  rw [e1, e2, List.drop_zero, Nat.min_eq_left h]
structure WalkOk (d : WebD) (tl : List Name) (n : Name) (p : List Name) (last : Name) : Prop where
  hd : p[0]? = some n
  ch : ∀ (i : Nat) x y, p[i]? = some x → p[i + 1]? = some y → y ∈ abv d.rows x
  ok : ∀ x, x ∈ p → x ∈ names d.rows ∧ x ∉ tl
  ls : p[p.length - 1]? = some last
  en : last ∈ heldL d ∧ endS d last ≠ "lies"
theorem last_at {vs : List V} {v : V} {k : Nat} (hl : vs.length = k) (h0 : 0 < k) (h : vs[k - 1]? = some v) : atI vs (-1) = some v := by
  have h1 : vs ≠ [] := fun e => by rw [e] at hl; simp at hl; omega
  have h2 : vs.getLast h1 = v := by
    rw [List.getLast_eq_getElem]
    obtain ⟨q1, q2⟩ := List.getElem?_eq_some_iff.mp h
    simp only [hl]
    exact q2
  have e : vs = vs.dropLast ++ [v] := by
    rw [← h2]
    exact (List.dropLast_concat_getLast h1).symm
  rw [e]
  exact atI_last _ _
theorem hu65_of {A : Around} {k : Nat} (hr : Room (k + 1) A) : A.units + 65 < cLine := by
  have := hr.un
  omega
def spWalked : Sp := fun vs H Q _ => ∃ (pa tn a e g : Addr) (d : WebD) (tl p : List Name) (n last : Name), vs = [.ref pa, .ref tn, .ref a, .ref e, .ref g] ∧ NmsL H pa p ∧ p.length ≤ 100000 ∧ H tn = some (.tup [.int n.1, .int n.2]) ∧
  AboveR H a d.rows ∧ EndsR H e d ∧ FlagR H g tl ∧ WalkOk d tl n p last ∧ ∀ H', Same H H' → Q (.bl true) H'
theorem sc_law_walked : FnScope ["_law_found", "_law_name_here", "_law_above_here", "_law_ends_here", "_law_gone", "_law_k", "_law_one"] ["_law_found", "_law_name_here", "_law_above_here", "_law_ends_here", "_law_gone"] (defScope s_law_walked) := ⟨rfl, rfl, rfl, by decide +kernel, rfl, by decide +kernel, by decide +kernel⟩
theorem ok_law_walked (Z : Zt K mg) : Cal P w K mg base "_law_walked" 4 ["_law_found", "_law_name_here", "_law_above_here", "_law_ends_here", "_law_gone"] spWalked := by
  obtain ⟨fd, F⟩ := Z.du_law_walked
  have c_law_listed : Cal P w K mg base "_law_listed" 3 ["_law_found"] spListed := ok_law_listed Z
  refine ⟨Z.gl_law_walked, F.kp, fd, F.ok sc_law_walked (fun vs H Q E h => ?_) (fun cdv A outer s H vs Q E hr h => ?_), FunD.bindsN F fun _ _ _ _ _ _ us hl => match us, hl with | [_, _, _, _, _], _ => rfl⟩
  · obtain ⟨pa, tn, a, e, g, d, tl, p, n, last, rfl, _⟩ := h
    rfl
  · obtain ⟨pa, tn, a, e, g, d, tl, p, n, last, rfl, hp, hpl, htn, hA, hE, hG, hW, k⟩ := h
    have hu := hu_of hr
    have hu65 := hu65_of hr
    have hp0 := hp
    obtain ⟨pvs, hpv, hpA⟩ := hp
    have hlen0 : 0 < p.length := (List.getElem?_eq_some_iff.mp hW.hd).1
    have hpl2 := hpA.1
    refine ⟨_, PSs.nox (pss_cons (ps_if (PW.pt (pw_or (pt_not (pt_val (pe_cal c_law_listed (hr.mono (by decide)) (by rfl) (pa_cons (pv 0) pa_nil)))) (pw_or (pt_cmpR (op_neD hr.units) (pe_slice sl_list (pv 0) po_none (po_some pe_int)) (pe_lst (pa_cons (pv 1) pa_nil)) (nomark _)) (pw_or1 (pt_cmpR (op_neD hr.units) (pe_lc (own := [("_law_one", 6)]) (by rfl) sc_law_walked.nd (pi_list (pv 0)) (blkOk_by (own := [("_law_one", 6)]) (N := ["_law_found", "_law_name_here", "_law_above_here", "_law_ends_here", "_law_gone", "_law_k", "_law_one"]) (sc := defScope s_law_walked) (by decide +kernel)) (fun _ _ _ _ _ => (pg_name (i := 6) sc_law_walked.nd rfl (Or.inl rfl) (Or.inr rfl))) (fun _ _ _ _ _ => (pts_one (pt_cmp (pc_din hu (pv 6) (pv 4))))) (fun _ _ _ _ _ => (pv 6))) (pe_lst pa_nil) (nomark _)))))) (pss_one (ps_ret pe_bl)) pss_nil)
      (pss_cons (ps_for PassesOwn.never rfl (pi_range2 (by rfl) Z.fr_range (pa_cons pe_int (pa_cons (pe_callB call_len_seq (by rfl) Z.fr_len PySem.boot_len (pa_cons (pv 0) pa_nil)) pa_nil))) (pg_name (i := 5) sc_law_walked.nd rfl (Or.inl rfl)) (pss_one (ps_if (pt_cmpR (op_notInD hu65) (pe_ix ix_list (pv 0) (pv 5) (fun _ _ => rfl)) (pe_dget hu (pv 2) (pe_ix ix_list (pv 0) (pe_op op_sub (pv 5) pe_int) (fun _ _ => rfl)) (fun _ _ => rfl)) (by rfl)) (pss_one (ps_ret pe_bl)) pss_nil)))
      (pss_one (ps_ret (pe_cmpR op_ne (pe_dget2 hu (pv 3) (pe_ix ix_list (pv 0) (pe_un un_neg pe_int) (fun _ _ => rfl)) pe_str ⟨rfl, rfl, rfl, rfl⟩) pe_str (nomark _)))))), ?_⟩
    -- not _law_listed(found)
    refine ⟨_, rfl, pa, p, rfl, hp0, hpl, fun H1 s1 => ⟨true, rfl, iteF ?_⟩⟩
    -- found[:1] != [name_here]
    refine ⟨_, rfl, 1, rfl, pa, pvs, rfl, SqL.of (s1 _ _ hpv), fun q hq => ?_⟩
    refine ⟨_, rfl, (by show 1 ≤ sizeLine; decide), fun q2 hq2 => ?_⟩
    have s2 : Same H1 (upd H1 q (.lst (cutV pvs none (some 1)))) := sm_new hq
    have s3 := s2.trans (sm_new (o := .lst [.ref tn]) hq2)
    have hc1 : (upd (upd H1 q (.lst (cutV pvs none (some 1)))) q2 (.lst [.ref tn])) q = some (.lst (pvs.take 1)) := by
      rw [← cut1 (α := Nat) pvs (by omega)]
      exact sm_new hq2 _ _ upd_same
    have hA1 := (hpA.take 1).mono fun v x => NmR.mono (s1.trans s3)
    have e1 : p.take 1 = [n] := by
      have := take_snoc hW.hd
      simpa using this
    rw [e1] at hA1
    refine ⟨_, _, dp_names ⟨_, hc1, hA1⟩, dp_names (ns := [n]) ⟨_, upd_same, .one ⟨tn, rfl, s3 _ _ (s1 _ _ htn)⟩⟩, shaped_names _, shaped_names _, ?_⟩
    rw [eqv_names]
    have e2 : (!decide (([n] : List Name) = [n])) = false := by simp
    rw [e2]
    refine ⟨_, rfl, iteF ?_⟩
    -- [one for one in found if one in gone] != []
    have s4 := s1.trans s3
    refine ⟨_, rfl, pa, rfl, ⟨_, SqL.of (s4 _ _ hpv)⟩, fun Dl hDl => lc_filter (fun m => decide (m ∈ tl)) (s4 _ _ hpv) (hpA.mono fun v x => NmR.mono s4) hpl hDl (fun x => rfl) (fun x => rfl) ?_ ?_⟩
    · rintro m tm H5 hm s5 htm Q5 hQ
      obtain ⟨o, g1, g2⟩ := ((hG.mono s4).mono s5).get (n := m) htm
      refine ⟨_, rfl, _, rfl, g, o, rfl, g1, _, rfl, ?_⟩
      rw [g2]
      exact hQ
    · rintro H5 ws s5 hws hwA
      refine ⟨Nat.zero_le _, fun q3 hq3 => ?_⟩
      have s6 := s4.trans (s5.trans (sm_new (o := .lst []) hq3))
      refine ⟨_, _, dp_names ⟨ws, sm_new hq3 _ _ hws, hwA.mono fun v x => NmR.mono (s5.trans (sm_new hq3))⟩, dp_nil upd_same, shaped_names _, shaped_names [], ?_⟩
      rw [eqv_names]
      have e3 : List.filter (fun m => decide (m ∈ tl)) p = [] := List.filter_eq_nil_iff.mpr fun m hm => by simp [(hW.ok m hm).2]
      rw [e3]
      have e4 : (!decide (([] : List Name) = [])) = false := by simp
      rw [e4]
      refine ⟨_, rfl, iteF ?_⟩
      -- for k in range(1, len(found))
      refine ⟨_, rfl, pa, _, rfl, .inl (SqL.of (s6 _ _ hpv)), _, _, rfl, ⟨by omega, by omega, by omega, by omega⟩,
        for_range (lo := 1) (n := (((pvs.length : Nat) : Int) - 1).toNat) (fun i σ H' => ∃ b : Option V, σ = [some (.ref pa), some (.ref tn), some (.ref a), some (.ref e), some (.ref g), b, none] ∧ Same H H') ?_ ?_ ?_⟩
      · exact ⟨none, rfl, s6⟩
      · rintro i σ H' hi ⟨b, rfl, hS⟩
        have hi1 : i + 1 < p.length := by omega
        obtain ⟨v1, x1, t1, rfl, y1⟩ := hpA.get (List.getElem?_eq_getElem hi1)
        obtain ⟨v0, x0, t0, rfl, y0⟩ := hpA.get (List.getElem?_eq_getElem (show i < p.length by omega))
        have hx0 := hW.ok _ (List.getElem_mem (show i < p.length by omega))
        obtain ⟨al, hal, halN⟩ := hA.mono hS
        have hga := dget_n (f := fun n => V.ref (al n)) (ns := names d.rows) hal (hS _ _ y0)
        rw [if_pos hx0.1] at hga
        refine ⟨_, rfl, _, rfl, pa, pvs, _, _, rfl, rfl, SqL.of (hS _ _ hpv), at_of (j := i + 1) (by omega) x1, _, rfl, _, rfl, _, rfl, 1 + (i : Int), 1, rfl, rfl, pa, pvs, _, _, rfl, rfl, SqL.of (hS _ _ hpv), at_of (j := i) (by omega) x0, a, _, rfl, hga,
          _, _, dp_name (hS _ _ y1), dp_names (halN _ hx0.1), shaped_name _, shaped_names _, _, rfl, ?_⟩
        rw [any_name, decide_eq_true (hW.ch i _ _ (List.getElem?_eq_getElem (show i < p.length by omega)) (List.getElem?_eq_getElem hi1))]
        exact iteF ⟨_, rfl, hS⟩
      · rintro σ H' ⟨b, rfl, hS⟩
        obtain ⟨vl, xl, tl2, rfl, yl⟩ := hpA.get hW.ls
        have hE' := hE.mono hS
        have hg := hE'.get (n := last) (hS _ _ yl)
        rw [if_pos hW.en.1] at hg
        refine ⟨_, rfl, e, rfl, isD_of hE', _, rfl, _, rfl, pa, pvs, _, _, rfl, rfl, SqL.of (hS _ _ hpv), last_at hpl2 hlen0 xl, _, hg, rfl, ?_⟩
        have e5 : (!decide ((Option.getD (some (V.str (endS d last))) (V.str "lies")) = V.str "lies")) = true := by
          show (!decide (V.str (endS d last) = V.str "lies")) = true
          rw [decide_eq_false fun z => hW.en.2 (V.str.inj z)]
          rfl
        show Q (.bl (!decide ((Option.getD (some (V.str (endS d last))) (V.str "lies")) = V.str "lies"))) H'
        rw [e5]
        exact k H' hS
end K34
set_option autoImplicit true
set_option Elab.async false
set_option linter.all false
set_option maxRecDepth 100000
set_option maxHeartbeats 4000000
namespace K34
open PySem PySem.Spec PyProof.Rows L2
variable {P : Program} {w : World} {K : PySem.W.Frag} {mg : Str → Option Value} {base : Heap}

/-! ### stitches in the heap -/
def sdI (f : Bool) : Int := if f then 1 else -1
def clsS : Stch → Str
  | .plain _ => "Plain" | .slip => "Slip" | .over => "Over" | .lean _ _ _ => "Lean" | .grow _ _ => "Grow" | .cross _ _ _ _ => "Cross" | .off => "Off" | .keep _ => "Keep" | .fetch _ => "Fetch"
def fldS : Stch → List (Str × V)
  | .plain f => [("side", .int (sdI f))]
  | .lean m r f => [("many", .int ((m.val + 2 : Nat) : Int)), ("way", .str (if r then "r" else "l")), ("side", .int (sdI f))]
  | .grow m f => [("many", .int ((m.val + 2 : Nat) : Int)), ("side", .int (sdI f))]
  | .cross a b v f => [("first", .int ((a.val + 1 : Nat) : Int)), ("second", .int ((b.val + 1 : Nat) : Int)), ("way", .str (if v then "f" else "b")), ("side", .int (sdI f))]
  | .keep k => [("keeper", .str k.str)]
  | .fetch k => [("keeper", .str k.str)]
  | _ => []
def StR (K : PySem.W.Frag) (H : Hp) (v : V) (s : Stch) : Prop := ∃ a dx, v = .ref a ∧ H a = some (.ins (He.ga K (clsS s)) dx (fldS s))
theorem StR.mono {H H' : Hp} {v : V} {s : Stch} (h : Same H H') (q : StR K H v s) : StR K H' v s := let ⟨a, dx, e, x⟩ := q; ⟨a, dx, e, h _ _ x⟩
def TieR (H : Hp) (v : V) : Tie → Prop
  | .same p => ∃ t, v = .ref t ∧ H t = some (.tup [.str "same", .int (p : Int)])
  | .new ps => ∃ (t pt : Addr) (sd lf : Int), v = .ref t ∧ H t = some (.tup [.str "new", .ref pt, .int sd, .int lf]) ∧ H pt = some (.tup (ps.map fun (p : Nat) => V.int (p : Int)))
  | .frm k => ∃ t, v = .ref t ∧ H t = some (.tup [.str "from", .str k.str])
theorem TieR.mono {H H' : Hp} {v : V} {t : Tie} (h : Same H H') (q : TieR H v t) : TieR H' v t := by
  cases t with
  | same p => exact let ⟨t, e, x⟩ := q; ⟨t, e, h _ _ x⟩
  | new ps => exact let ⟨t, pt, sd, lf, e, x, y⟩ := q; ⟨t, pt, sd, lf, e, h _ _ x, h _ _ y⟩
  | frm k => exact let ⟨t, e, x⟩ := q; ⟨t, e, h _ _ x⟩
def TiesL (H : Hp) (a : Addr) (ts : List Tie) : Prop := ∃ vs, H a = some (.lst vs) ∧ All2 (TieR H) vs ts
def wordS : Option W → Str
  | none => "off"
  | some k => k.str
def EndR (H : Hp) (v : V) (e : Nat × Option W) : Prop := ∃ t, v = .ref t ∧ H t = some (.tup [.int (e.1 : Int), .str (wordS e.2)])
def EndsL (H : Hp) (a : Addr) (es : List (Nat × Option W)) : Prop := ∃ vs, H a = some (.lst vs) ∧ All2 (EndR H) vs es
/-- the promises of a stitch's methods -/
def spSTakes (K : PySem.W.Frag) (st : Stch) : Sp := fun vs H Q _ => ∃ v, vs = [v] ∧ StR K H v st ∧ Q (.int (st.takes : Int)) H
def spSTies (K : PySem.W.Frag) (st : Stch) : Sp := fun vs H Q _ => ∃ v, vs = [v] ∧ StR K H v st ∧ ∀ H' a, Same H H' → H a = none → TiesL H' a st.ties → Q (.ref a) H'
def spSEnds (K : PySem.W.Frag) (st : Stch) : Sp := fun vs H Q _ => ∃ v, vs = [v] ∧ StR K H v st ∧ ∀ H' a, Same H H' → H a = none → EndsL H' a st.ends → Q (.ref a) H'
theorem one_arg {v : V} {vs : List V} (h : vs = [v]) : vs.length = (["self"] : List Str).length := by rw [h]; rfl
/-- a def of the text without defaults -/
abbrev FnB (K : PySem.W.Frag) (x qual : Str) (st : Stmt) (f : Addr) (fd : FuncData) : Prop := FunD K x qual (defArgs st) (defBody st) (defScope st) [] [] f fd

/-! ### what every stitch has -/
theorem sc_Stitch_takes : FnScope ["self"] ["self"] (defScope s_Stitch_takes) := ⟨rfl, rfl, rfl, by decide +kernel, rfl, by decide +kernel, by decide +kernel⟩
theorem ok_Stitch_takes {f : Addr} {fd : FuncData} (F : FnB K "takes" "Stitch.takes" s_Stitch_takes f fd) {st : Stch} (hst : st.takes = 1) : FnOk P w K mg base CX0 1 f fd ["self"] (spSTakes K st) := by
  refine F.ok sc_Stitch_takes (fun vs H Q E h => ?_) (fun cdv A outer s H vs Q E hr h => ?_)
  · obtain ⟨v, e, _⟩ := h
    exact one_arg e
  · obtain ⟨v, rfl, _, k⟩ := h
    refine ⟨_, PSs.nox (pss_one (ps_ret pe_int)), ?_⟩
    rw [hst] at k
    exact k
theorem sc_Stitch_ties : FnScope ["self"] ["self"] (defScope s_Stitch_ties) := ⟨rfl, rfl, rfl, by decide +kernel, rfl, by decide +kernel, by decide +kernel⟩
theorem ok_Stitch_ties {f : Addr} {fd : FuncData} (F : FnB K "ties" "Stitch.ties" s_Stitch_ties f fd) {st : Stch} (hst : st.ties = []) : FnOk P w K mg base CX0 1 f fd ["self"] (spSTies K st) := by
  refine F.ok sc_Stitch_ties (fun vs H Q E h => ?_) (fun cdv A outer s H vs Q E hr h => ?_)
  · obtain ⟨v, e, _⟩ := h
    exact one_arg e
  · obtain ⟨v, rfl, _, k⟩ := h
    refine ⟨_, PSs.nox (pss_one (ps_ret (pe_lst pa_nil))), ?_⟩
    refine ⟨Nat.zero_le _, fun p hp => k _ p (sm_new hp) hp ⟨[], upd_same, ?_⟩⟩
    rw [hst]
    exact .nil
theorem sc_Stitch_ends : FnScope ["self"] ["self"] (defScope s_Stitch_ends) := ⟨rfl, rfl, rfl, by decide +kernel, rfl, by decide +kernel, by decide +kernel⟩
theorem ok_Stitch_ends {f : Addr} {fd : FuncData} (F : FnB K "ends" "Stitch.ends" s_Stitch_ends f fd) {st : Stch} (hst : st.ends = []) : FnOk P w K mg base CX0 1 f fd ["self"] (spSEnds K st) := by
  refine F.ok sc_Stitch_ends (fun vs H Q E h => ?_) (fun cdv A outer s H vs Q E hr h => ?_)
  · obtain ⟨v, e, _⟩ := h
    exact one_arg e
  · obtain ⟨v, rfl, _, k⟩ := h
    refine ⟨_, PSs.nox (pss_one (ps_ret (pe_lst pa_nil))), ?_⟩
    refine ⟨Nat.zero_le _, fun p hp => k _ p (sm_new hp) hp ⟨[], upd_same, ?_⟩⟩
    rw [hst]
    exact .nil

/-! ### each kind -/
theorem zero_upd {H : Hp} {p : Addr} {o : HO} : (upd H p o) p = some o := upd_same
theorem sc_Plain_ties : FnScope ["self"] ["self"] (defScope s_Plain_ties) := ⟨rfl, rfl, rfl, by decide +kernel, rfl, by decide +kernel, by decide +kernel⟩
theorem ok_Plain_ties (Z : Zt K mg) {f : Addr} {fd : FuncData} (F : FnB K "ties" "Plain.ties" s_Plain_ties f fd) (b : Bool) : FnOk P w K mg base CX0 1 f fd ["self"] (spSTies K (.plain b)) := by
  refine F.ok sc_Plain_ties (fun vs H Q E h => ?_) (fun cdv A outer s H vs Q E hr h => ?_)
  · obtain ⟨v, e, _⟩ := h
    exact one_arg e
  · obtain ⟨v, rfl, ⟨a, dx, rfl, ha⟩, k⟩ := h
    refine ⟨_, PSs.nox (pss_one (ps_ret (pe_lst (pa_cons (pe_tup (pa_cons pe_str (pa_cons (pe_tup (pa_cons pe_int pa_nil)) (pa_cons (pe_fld (pv 0) rfl) (pa_cons pe_int pa_nil))))) pa_nil)))), ?_⟩
    refine ⟨(by show 1 ≤ sizeLine; decide), fun p hp => ?_⟩
    refine ⟨_, rfl, a, _, dx, _, _, rfl, sm_new hp _ _ ha, Z.cl_Plain, Z.na_Plain_side, rfl, (by show 4 ≤ sizeLine; decide), fun t ht => ?_⟩
    refine ⟨(by show 1 ≤ sizeLine; decide), fun l hl => ?_⟩
    have s1 := (sm_new (o := .tup [.int 0]) hp).trans (sm_new (o := .tup [.str "new", .ref p, .int (sdI b), .int 0]) ht)
    refine k _ l (s1.trans (sm_new hl)) (s1.free hl) ⟨_, upd_same, .one ⟨t, p, sdI b, 0, rfl, sm_new hl _ _ upd_same, sm_new hl _ _ (sm_new ht _ _ upd_same)⟩⟩
theorem sc_Slip_ties : FnScope ["self"] ["self"] (defScope s_Slip_ties) := ⟨rfl, rfl, rfl, by decide +kernel, rfl, by decide +kernel, by decide +kernel⟩
theorem ok_Slip_ties {f : Addr} {fd : FuncData} (F : FnB K "ties" "Slip.ties" s_Slip_ties f fd) : FnOk P w K mg base CX0 1 f fd ["self"] (spSTies K .slip) := by
  refine F.ok sc_Slip_ties (fun vs H Q E h => ?_) (fun cdv A outer s H vs Q E hr h => ?_)
  · obtain ⟨v, e, _⟩ := h
    exact one_arg e
  · obtain ⟨v, rfl, _, k⟩ := h
    refine ⟨_, PSs.nox (pss_one (ps_ret (pe_lst (pa_cons (pe_tup (pa_cons pe_str (pa_cons pe_int pa_nil))) pa_nil)))), ?_⟩
    refine ⟨(by show 2 ≤ sizeLine; decide), fun t ht => ?_⟩
    refine ⟨(by show 1 ≤ sizeLine; decide), fun l hl => ?_⟩
    refine k _ l ((sm_new ht).trans (sm_new hl)) ((sm_new ht).free hl) ⟨_, upd_same, .one ⟨t, rfl, sm_new hl _ _ upd_same⟩⟩
theorem sc_Over_takes : FnScope ["self"] ["self"] (defScope s_Over_takes) := ⟨rfl, rfl, rfl, by decide +kernel, rfl, by decide +kernel, by decide +kernel⟩
theorem ok_Over_takes {f : Addr} {fd : FuncData} (F : FnB K "takes" "Over.takes" s_Over_takes f fd) : FnOk P w K mg base CX0 1 f fd ["self"] (spSTakes K .over) := by
  refine F.ok sc_Over_takes (fun vs H Q E h => ?_) (fun cdv A outer s H vs Q E hr h => ?_)
  · obtain ⟨v, e, _⟩ := h
    exact one_arg e
  · obtain ⟨v, rfl, _, k⟩ := h
    refine ⟨_, PSs.nox (pss_one (ps_ret pe_int)), ?_⟩
    exact k
theorem sc_Over_ties : FnScope ["self"] ["self"] (defScope s_Over_ties) := ⟨rfl, rfl, rfl, by decide +kernel, rfl, by decide +kernel, by decide +kernel⟩
theorem ok_Over_ties {f : Addr} {fd : FuncData} (F : FnB K "ties" "Over.ties" s_Over_ties f fd) : FnOk P w K mg base CX0 1 f fd ["self"] (spSTies K .over) := by
  refine F.ok sc_Over_ties (fun vs H Q E h => ?_) (fun cdv A outer s H vs Q E hr h => ?_)
  · obtain ⟨v, e, _⟩ := h
    exact one_arg e
  · obtain ⟨v, rfl, _, k⟩ := h
    refine ⟨_, PSs.nox (pss_one (ps_ret (pe_lst (pa_cons (pe_tup (pa_cons pe_str (pa_cons (pe_tup pa_nil) (pa_cons pe_int (pa_cons pe_int pa_nil))))) pa_nil)))), ?_⟩
    refine ⟨Nat.zero_le _, fun p hp => ?_⟩
    refine ⟨(by show 4 ≤ sizeLine; decide), fun t ht => ?_⟩
    refine ⟨(by show 1 ≤ sizeLine; decide), fun l hl => ?_⟩
    have s1 := (sm_new (o := .tup []) hp).trans (sm_new (o := .tup [.str "new", .ref p, .int 0, .int 0]) ht)
    refine k _ l (s1.trans (sm_new hl)) (s1.free hl) ⟨_, upd_same, .one ⟨t, p, 0, 0, rfl, sm_new hl _ _ upd_same, sm_new hl _ _ (sm_new ht _ _ upd_same)⟩⟩
theorem sc_Lean_takes : FnScope ["self"] ["self"] (defScope s_Lean_takes) := ⟨rfl, rfl, rfl, by decide +kernel, rfl, by decide +kernel, by decide +kernel⟩
theorem ok_Lean_takes (Z : Zt K mg) {f : Addr} {fd : FuncData} (F : FnB K "takes" "Lean.takes" s_Lean_takes f fd) (m : Fin 3) (r b : Bool) : FnOk P w K mg base CX0 1 f fd ["self"] (spSTakes K (.lean m r b)) := by
  refine F.ok sc_Lean_takes (fun vs H Q E h => ?_) (fun cdv A outer s H vs Q E hr h => ?_)
  · obtain ⟨v, e, _⟩ := h
    exact one_arg e
  · obtain ⟨v, rfl, ⟨a, dx, rfl, ha⟩, k⟩ := h
    refine ⟨_, PSs.nox (pss_one (ps_ret (pe_fld (pv 0) rfl))), ?_⟩
    exact ⟨_, rfl, a, _, dx, _, _, rfl, ha, Z.cl_Lean, Z.na_Lean_many, rfl, k⟩
theorem sc_Off_ends : FnScope ["self"] ["self"] (defScope s_Off_ends) := ⟨rfl, rfl, rfl, by decide +kernel, rfl, by decide +kernel, by decide +kernel⟩
theorem ok_Off_ends {f : Addr} {fd : FuncData} (F : FnB K "ends" "Off.ends" s_Off_ends f fd) : FnOk P w K mg base CX0 1 f fd ["self"] (spSEnds K .off) := by
  refine F.ok sc_Off_ends (fun vs H Q E h => ?_) (fun cdv A outer s H vs Q E hr h => ?_)
  · obtain ⟨v, e, _⟩ := h
    exact one_arg e
  · obtain ⟨v, rfl, _, k⟩ := h
    refine ⟨_, PSs.nox (pss_one (ps_ret (pe_lst (pa_cons (pe_tup (pa_cons pe_int (pa_cons pe_str pa_nil))) pa_nil)))), ?_⟩
    refine ⟨(by show 2 ≤ sizeLine; decide), fun t ht => ?_⟩
    refine ⟨(by show 1 ≤ sizeLine; decide), fun l hl => ?_⟩
    refine k _ l ((sm_new ht).trans (sm_new hl)) ((sm_new ht).free hl) ⟨_, upd_same, .one ⟨t, rfl, sm_new hl _ _ upd_same⟩⟩
theorem sc_Keep_ends : FnScope ["self"] ["self"] (defScope s_Keep_ends) := ⟨rfl, rfl, rfl, by decide +kernel, rfl, by decide +kernel, by decide +kernel⟩
theorem ok_Keep_ends (Z : Zt K mg) {f : Addr} {fd : FuncData} (F : FnB K "ends" "Keep.ends" s_Keep_ends f fd) (j : W) : FnOk P w K mg base CX0 1 f fd ["self"] (spSEnds K (.keep j)) := by
  refine F.ok sc_Keep_ends (fun vs H Q E h => ?_) (fun cdv A outer s H vs Q E hr h => ?_)
  · obtain ⟨v, e, _⟩ := h
    exact one_arg e
  · obtain ⟨v, rfl, ⟨a, dx, rfl, ha⟩, k⟩ := h
    refine ⟨_, PSs.nox (pss_one (ps_ret (pe_lst (pa_cons (pe_tup (pa_cons pe_int (pa_cons (pe_fld (pv 0) rfl) pa_nil))) pa_nil)))), ?_⟩
    refine ⟨_, rfl, a, _, dx, _, _, rfl, ha, Z.cl_Keep, Z.na_Keep_keeper, rfl, (by show 2 ≤ sizeLine; decide), fun t ht => ?_⟩
    refine ⟨(by show 1 ≤ sizeLine; decide), fun l hl => ?_⟩
    refine k _ l ((sm_new ht).trans (sm_new hl)) ((sm_new ht).free hl) ⟨_, upd_same, .one ⟨t, rfl, sm_new hl _ _ upd_same⟩⟩
theorem sc_Fetch_takes : FnScope ["self"] ["self"] (defScope s_Fetch_takes) := ⟨rfl, rfl, rfl, by decide +kernel, rfl, by decide +kernel, by decide +kernel⟩
theorem ok_Fetch_takes {f : Addr} {fd : FuncData} (F : FnB K "takes" "Fetch.takes" s_Fetch_takes f fd) (j : W) : FnOk P w K mg base CX0 1 f fd ["self"] (spSTakes K (.fetch j)) := by
  refine F.ok sc_Fetch_takes (fun vs H Q E h => ?_) (fun cdv A outer s H vs Q E hr h => ?_)
  · obtain ⟨v, e, _⟩ := h
    exact one_arg e
  · obtain ⟨v, rfl, _, k⟩ := h
    refine ⟨_, PSs.nox (pss_one (ps_ret pe_int)), ?_⟩
    exact k
theorem sc_Fetch_ties : FnScope ["self"] ["self"] (defScope s_Fetch_ties) := ⟨rfl, rfl, rfl, by decide +kernel, rfl, by decide +kernel, by decide +kernel⟩
theorem ok_Fetch_ties (Z : Zt K mg) {f : Addr} {fd : FuncData} (F : FnB K "ties" "Fetch.ties" s_Fetch_ties f fd) (j : W) : FnOk P w K mg base CX0 1 f fd ["self"] (spSTies K (.fetch j)) := by
  refine F.ok sc_Fetch_ties (fun vs H Q E h => ?_) (fun cdv A outer s H vs Q E hr h => ?_)
  · obtain ⟨v, e, _⟩ := h
    exact one_arg e
  · obtain ⟨v, rfl, ⟨a, dx, rfl, ha⟩, k⟩ := h
    refine ⟨_, PSs.nox (pss_one (ps_ret (pe_lst (pa_cons (pe_tup (pa_cons pe_str (pa_cons (pe_fld (pv 0) rfl) pa_nil))) pa_nil)))), ?_⟩
    refine ⟨_, rfl, a, _, dx, _, _, rfl, ha, Z.cl_Fetch, Z.na_Fetch_keeper, rfl, (by show 2 ≤ sizeLine; decide), fun t ht => ?_⟩
    refine ⟨(by show 1 ≤ sizeLine; decide), fun l hl => ?_⟩
    refine k _ l ((sm_new ht).trans (sm_new hl)) ((sm_new ht).free hl) ⟨_, upd_same, .one ⟨t, rfl, sm_new hl _ _ upd_same⟩⟩

theorem rgV_nat (k : Nat) : rgV 0 ((k : Nat) : Int) = (List.range k).map fun (p : Nat) => V.int (p : Int) := by
  unfold rgV
  rw [show (((k : Nat) : Int) - 0).toNat = k by omega]
  exact List.map_congr_left fun p _ => by rw [Int.zero_add]
theorem str_ne {a b : Str} (h : ¬ a = b) : decide (V.str a = V.str b) = false := decide_eq_false fun e => h (V.str.inj e)
theorem sc_Lean_ties : FnScope ["self", "parents"] ["self"] (defScope s_Lean_ties) := ⟨rfl, rfl, rfl, by decide +kernel, rfl, by decide +kernel, by decide +kernel⟩
theorem ok_Lean_ties (Z : Zt K mg) {f : Addr} {fd : FuncData} (F : FnB K "ties" "Lean.ties" s_Lean_ties f fd) (m : Fin 3) (r b : Bool) : FnOk P w K mg base CX0 1 f fd ["self"] (spSTies K (.lean m r b)) := by
  refine F.ok sc_Lean_ties (fun vs H Q E h => ?_) (fun cdv A outer s H vs Q E hr h => ?_)
  · obtain ⟨v, e, _⟩ := h
    exact one_arg e
  · obtain ⟨v, rfl, ⟨a, dx, rfl, ha⟩, k⟩ := h
    refine ⟨_, PSs.nox (pss_cons (ps_set (i := 1) sc_Lean_ties.nd rfl (Or.inl rfl) (pe_listRg (by rfl) (by rfl) Z.fr_list (prg_1 (by rfl) Z.fr_range (pe_fld (pv 0) rfl))))
      (Evl.pss_cut (ps_if (pt_cmpR op_eq (pe_fld (pv 0) rfl) pe_str (nomark _)) (pss_one (ps_set (i := 1) sc_Lean_ties.nd rfl (Or.inl rfl) (pe_lstRev (by rfl) (by rfl) Z.fr_list (by rfl) Z.fr_reversed (pv 1)))) pss_nil)
      (pss_one (ps_ret (pe_lst (pa_cons (pe_tup (pa_cons pe_str (pa_cons (pe_callTy call_tuple_of (by rfl) Z.fr_tuple (by decide +kernel) (pa_cons (pv 1) pa_nil)) (pa_cons (pe_fld (pv 0) rfl) (pa_cons pe_int pa_nil))))) pa_nil)))))), ?_⟩
    have hm := m.isLt
    refine ⟨_, rfl, a, _, dx, _, _, rfl, ha, Z.cl_Lean, Z.na_Lean_many, rfl, _, rfl, ⟨by decide, by decide, by omega, by omega, by omega⟩, fun q hq => ?_⟩
    rw [rgV_nat]
    have s1 : Same H (upd H q (.lst ((List.range (m.val + 2)).map fun (p : Nat) => V.int (p : Int)))) := sm_new hq
    -- if self.way == 'r'
    refine ⟨fun σ' H' => ∃ q, σ' = [some (.ref a), some (.ref q)] ∧ Same H H' ∧ H' q = some (.lst ((if r then (List.range (m.val + 2)).reverse else List.range (m.val + 2)).map fun (p : Nat) => V.int (p : Int))), ?_, ?_⟩
    · refine ⟨_, rfl, a, _, dx, _, _, rfl, s1 _ _ ha, Z.cl_Lean, Z.na_Lean_way, rfl, rfl, _, rfl, ?_⟩
      cases r with
      | true =>
        show if decide (V.str "r" = V.str "r") = true then _ else _
        rw [decide_eq_true rfl]
        refine iteT ?_
        refine ⟨_, rfl, q, _, rfl, SqL.of upd_same, fun q2 hq2 => ⟨q2, rfl, s1.trans (sm_new hq2), ?_⟩⟩
        rw [upd_same, ← List.map_reverse]
        rfl
      | false =>
        show if decide (V.str "l" = V.str "r") = true then _ else _
        rw [str_ne (by decide +kernel)]
        exact iteF ⟨q, rfl, s1, upd_same⟩
    · rintro σ' H' ⟨q, rfl, hS, hq⟩
      refine ⟨_, rfl, q, _, rfl, .inl ⟨SqL.of hq, fun pt hpt => ?_⟩⟩
      refine ⟨_, rfl, a, _, dx, _, _, rfl, sm_new hpt _ _ (hS _ _ ha), Z.cl_Lean, Z.na_Lean_side, rfl, (by show 4 ≤ sizeLine; decide), fun t ht => ?_⟩
      refine ⟨(by show 1 ≤ sizeLine; decide), fun l hl => ?_⟩
      have s2 := hS.trans ((sm_new (o := .tup ((if r then (List.range (m.val + 2)).reverse else List.range (m.val + 2)).map fun (p : Nat) => V.int (p : Int))) hpt).trans (sm_new (o := .tup [.str "new", .ref pt, .int (sdI b), .int 0]) ht))
      exact k _ l (s2.trans (sm_new hl)) (s2.free hl) ⟨_, upd_same, .one ⟨t, pt, sdI b, 0, rfl, sm_new hl _ _ upd_same, sm_new hl _ _ (sm_new ht _ _ upd_same)⟩⟩
theorem sc_Grow_ties : FnScope ["self", "found", "side", "k"] ["self"] (defScope s_Grow_ties) := ⟨rfl, rfl, rfl, by decide +kernel, rfl, by decide +kernel, by decide +kernel⟩
theorem ok_Grow_ties (Z : Zt K mg) {f : Addr} {fd : FuncData} (F : FnB K "ties" "Grow.ties" s_Grow_ties f fd) (m : Fin 3) (b : Bool) : FnOk P w K mg base CX0 1 f fd ["self"] (spSTies K (.grow m b)) := by
  refine F.ok sc_Grow_ties (fun vs H Q E h => ?_) (fun cdv A outer s H vs Q E hr h => ?_)
  · obtain ⟨v, e, _⟩ := h
    exact one_arg e
  · obtain ⟨v, rfl, ⟨a, dx, rfl, ha⟩, k⟩ := h
    refine ⟨_, PSs.nox (pss_cons (ps_set (i := 1) sc_Grow_ties.nd rfl (Or.inl rfl) (pe_lst pa_nil))
      (pss_cons (ps_set (i := 2) sc_Grow_ties.nd rfl (Or.inl rfl) (pe_fld (pv 0) rfl))
      (pss_cons (ps_for PassesOwn.never rfl (pi_range1 (by rfl) Z.fr_range (pa_cons (pe_fld (pv 0) rfl) pa_nil)) (pg_name (i := 3) sc_Grow_ties.nd rfl (Or.inl rfl)) (pss_cons (ps_expr (pe_bm PySem.F.plainAttrs_list PySem.F.slot_list_append PySem.F.type_list_append mt_append (pv 1) (pa_cons (pe_tup (pa_cons pe_str (pa_cons (pe_tup (pa_cons pe_int pa_nil)) (pa_cons (pv 2) (pa_cons pe_int pa_nil))))) pa_nil)))
      (pss_one (ps_set (i := 2) sc_Grow_ties.nd rfl (Or.inl rfl) (pe_op op_sub pe_int (pv 2))))))
      (pss_one (ps_ret (pv 1)))))), ?_⟩
    have hm := m.isLt
    refine ⟨Nat.zero_le _, fun l hl => ?_⟩
    refine ⟨_, rfl, a, _, dx, _, _, rfl, sm_new hl _ _ ha, Z.cl_Grow, Z.na_Grow_side, rfl, ?_⟩
    have hG : Same H (msk [l] (upd H l (.lst []))) := msk_into (sm_new hl) fun a ha => by rw [List.mem_singleton.mp ha]; exact hl
    refine ⟨_, rfl, a, _, dx, _, _, rfl, sm_new hl _ _ ha, Z.cl_Grow, Z.na_Grow_many, rfl, _, rfl, by omega, by omega,
      for_range (lo := 0) (n := m.val + 2) (fun i σ H' => ∃ (sd : Int) (b2 : Option V) (vs : List V), σ = [some (.ref a), some (.ref l), some (.int sd), b2] ∧ Same H (msk [l] H') ∧ H' l = some (.lst vs) ∧ All2 (TieR (msk [l] H')) vs (List.replicate i (.new [0]))) ?_ ?_ ?_⟩
    · exact ⟨_, none, [], rfl, hG, upd_same, .nil⟩
    · rintro i σ H' hi ⟨sd, b2, vs, rfl, hS, hL, hA⟩
      refine ⟨_, rfl, .inl ⟨rfl, _, SqL.of hL⟩, (by show 1 ≤ sizeLine; decide), fun p hp => ?_⟩
      refine ⟨_, rfl, (by show 4 ≤ sizeLine; decide), fun t ht => ?_⟩
      have s2 := (sm_new (o := .tup [.int 0]) hp).trans (sm_new (o := .tup [.str "new", .ref p, .int sd, .int 0]) ht)
      have hpl : p ≠ l := fun e => by rw [e, hL] at hp; cases hp
      have htl : t ≠ l := fun e => by rw [e, sm_new hp _ _ hL] at ht; cases ht
      refine ⟨l, vs, _, rfl, rfl, s2 _ _ hL, szt (by rw [hA.1, List.length_replicate]; omega), ?_⟩
      refine ⟨_, rfl, _, _, rfl, rfl, _, _, _, rfl, ?_, upd_same, ?_⟩
      · rw [msk_upd (by simp)]
        exact hS.trans (msk_mono s2)
      · rw [msk_upd (by simp), List.replicate_succ']
        refine (hA.mono fun v x => TieR.mono (msk_mono s2)).snoc ⟨t, p, sd, 0, rfl, ?_, ?_⟩
        · rw [msk_out (by simpa using htl)]; exact upd_same
        · rw [msk_out (by simpa using hpl)]; exact sm_new ht _ _ upd_same
    · rintro σ H' ⟨sd, b2, vs, rfl, hS, hL, hA⟩
      refine ⟨_, rfl, k H' l (hS.trans msk_same) hl ⟨vs, hL, ?_⟩⟩
      have e : Stch.ties (.grow m b) = List.replicate (m.val + 2) (.new [0]) := by
        show (List.replicate (m.val + 2) [0]).map Tie.new = _
        rw [List.map_replicate]
      rw [e]
      exact hA.mono fun v x => TieR.mono msk_same
theorem sc_Cross_takes : FnScope ["self"] ["self"] (defScope s_Cross_takes) := ⟨rfl, rfl, rfl, by decide +kernel, rfl, by decide +kernel, by decide +kernel⟩
theorem ok_Cross_takes (Z : Zt K mg) {f : Addr} {fd : FuncData} (F : FnB K "takes" "Cross.takes" s_Cross_takes f fd) (x y : Fin 4) (v b : Bool) : FnOk P w K mg base CX0 1 f fd ["self"] (spSTakes K (.cross x y v b)) := by
  refine F.ok sc_Cross_takes (fun vs H Q E h => ?_) (fun cdv A outer s H vs Q E hr h => ?_)
  · obtain ⟨v, e, _⟩ := h
    exact one_arg e
  · obtain ⟨v, rfl, ⟨a, dx, rfl, ha⟩, k⟩ := h
    refine ⟨_, PSs.nox (pss_one (ps_ret (pe_op op_add (pe_fld (pv 0) rfl) (pe_fld (pv 0) rfl)))), ?_⟩
    exact ⟨_, rfl, a, _, dx, _, _, rfl, ha, Z.cl_Cross, Z.na_Cross_first, rfl, _, rfl, a, _, dx, _, _, rfl, ha, Z.cl_Cross, Z.na_Cross_second, rfl, _, _, rfl, rfl, k⟩
theorem sc_Cross_ties : FnScope ["self", "lift", "found", "k"] ["self"] (defScope s_Cross_ties) := ⟨rfl, rfl, rfl, by decide +kernel, rfl, by decide +kernel, by decide +kernel⟩
theorem ok_Cross_ties (Z : Zt K mg) {f : Addr} {fd : FuncData} (F : FnB K "ties" "Cross.ties" s_Cross_ties f fd) (x y : Fin 4) (v b : Bool) : FnOk P w K mg base CX0 1 f fd ["self"] (spSTies K (.cross x y v b)) := by
  refine F.ok sc_Cross_ties (fun vs H Q E h => ?_) (fun cdv A outer s H vs Q E hr h => ?_)
  · obtain ⟨v, e, _⟩ := h
    exact one_arg e
  · obtain ⟨v0, rfl, ⟨a, dx, rfl, ha⟩, k⟩ := h
    refine ⟨_, PSs.nox (pss_cons (ps_set (i := 1) sc_Cross_ties.nd rfl (Or.inl rfl) pe_int)
      (Evl.pss_cut (ps_if (pt_cmpR op_eq (pe_fld (pv 0) rfl) pe_str (nomark _)) (pss_one (ps_set (i := 1) sc_Cross_ties.nd rfl (Or.inl rfl) (pe_un un_neg pe_int))) pss_nil)
      (pss_cons (ps_set (i := 2) sc_Cross_ties.nd rfl (Or.inl rfl) (pe_lst pa_nil))
      (pss_cons (ps_for PassesOwn.never rfl (pi_range1 (by rfl) Z.fr_range (pa_cons (pe_fld (pv 0) rfl) pa_nil)) (pg_name (i := 3) sc_Cross_ties.nd rfl (Or.inl rfl)) (pss_one (ps_expr (pe_bm PySem.F.plainAttrs_list PySem.F.slot_list_append PySem.F.type_list_append mt_append (pv 2) (pa_cons (pe_tup (pa_cons pe_str (pa_cons (pe_tup (pa_cons (pe_op op_add (pe_fld (pv 0) rfl) (pv 3)) pa_nil)) (pa_cons (pe_fld (pv 0) rfl) (pa_cons (pe_op op_sub pe_int (pv 1)) pa_nil))))) pa_nil)))))
      (pss_cons (ps_for PassesOwn.never rfl (pi_range1 (by rfl) Z.fr_range (pa_cons (pe_fld (pv 0) rfl) pa_nil)) (pg_name (i := 3) sc_Cross_ties.nd rfl (Or.inl rfl)) (pss_one (ps_expr (pe_bm PySem.F.plainAttrs_list PySem.F.slot_list_append PySem.F.type_list_append mt_append (pv 2) (pa_cons (pe_tup (pa_cons pe_str (pa_cons (pe_tup (pa_cons (pv 3) pa_nil)) (pa_cons (pe_fld (pv 0) rfl) (pa_cons (pv 1) pa_nil))))) pa_nil)))))
      (pss_one (ps_ret (pv 2)))))))), ?_⟩
    have hx := x.isLt
    have hy := y.isLt
    -- lift = 1; if self.way == 'b': lift = -1
    refine ⟨fun σ' H' => ∃ lf : Int, σ' = [some (.ref a), some (.int lf), none, none] ∧ H' = H, ?_, ?_⟩
    · refine ⟨_, rfl, a, _, dx, _, _, rfl, ha, Z.cl_Cross, Z.na_Cross_way, rfl, rfl, _, rfl, ?_⟩
      cases v with
      | true =>
        show if decide (V.str "f" = V.str "b") = true then _ else _
        rw [str_ne (by decide +kernel)]
        exact iteF ⟨1, rfl, rfl⟩
      | false =>
        show if decide (V.str "b" = V.str "b") = true then _ else _
        rw [decide_eq_true rfl]
        exact iteT ⟨_, rfl, _, rfl, rfl⟩
    · rintro σ' H' ⟨lf, rfl, rfl⟩
      refine ⟨Nat.zero_le _, fun l hl => ?_⟩
      have hG : Same H' (msk [l] (upd H' l (.lst []))) := msk_into (sm_new hl) fun a ha => by rw [List.mem_singleton.mp ha]; exact hl
      -- for k in range(self.second)
      refine ⟨_, rfl, a, _, dx, _, _, rfl, sm_new hl _ _ ha, Z.cl_Cross, Z.na_Cross_second, rfl, _, rfl, by omega, by omega,
        for_range (lo := 0) (n := y.val + 1) (fun i σ H2 => ∃ (b2 : Option V) (vs : List V), σ = [some (.ref a), some (.int lf), some (.ref l), b2] ∧ Same H' (msk [l] H2) ∧ H2 l = some (.lst vs) ∧ All2 (TieR (msk [l] H2)) vs ((List.range i).map fun (k : Nat) => .new [x.val + 1 + k])) ?_ ?_ ?_⟩
      · exact ⟨none, [], rfl, hG, upd_same, .nil⟩
      · rintro i σ H2 hi ⟨b2, vs, rfl, hS, hL, hA⟩
        have hS' := hS.trans (msk_same (H := H2))
        refine ⟨_, rfl, .inl ⟨rfl, _, SqL.of hL⟩, _, rfl, a, _, dx, _, _, rfl, hS' _ _ ha, Z.cl_Cross, Z.na_Cross_first, rfl, _, rfl, _, _, rfl, rfl, (by show 1 ≤ sizeLine; decide), fun p hp => ?_⟩
        have s1 : Same H2 (upd H2 p (.tup [.int (((x.val + 1 : Nat) : Int) + (0 + (i : Int)))])) := sm_new hp
        refine ⟨_, rfl, a, _, dx, _, _, rfl, s1 _ _ (hS' _ _ ha), Z.cl_Cross, Z.na_Cross_side, rfl, _, rfl, _, _, rfl, rfl, (by show 4 ≤ sizeLine; decide), fun t ht => ?_⟩
        have s2 := s1.trans (sm_new (o := .tup [.str "new", .ref p, .int (sdI b), .int (0 - lf)]) ht)
        have hpl : p ≠ l := fun e => by rw [e, hL] at hp; cases hp
        have htl : t ≠ l := fun e => by rw [e, s1 _ _ hL] at ht; cases ht
        refine ⟨l, vs, _, rfl, rfl, s2 _ _ hL, szt (by rw [hA.1, List.length_map, List.length_range]; omega), _, _, rfl, ?_, upd_same, ?_⟩
        · rw [msk_upd (by simp)]
          exact hS.trans (msk_mono s2)
        · rw [msk_upd (by simp), List.range_succ, List.map_append]
          refine (hA.mono fun v x => TieR.mono (msk_mono s2)).snoc ⟨t, p, sdI b, 0 - lf, rfl, ?_, ?_⟩
          · rw [msk_out (by simpa using htl)]; exact upd_same
          · rw [msk_out (by simpa using hpl), sm_new ht _ _ upd_same, Int.zero_add]
            rfl
      · rintro σ H2 ⟨b2, vs, rfl, hS, hL, hA⟩
        have hS' := hS.trans (msk_same (H := H2))
        -- for k in range(self.first)
        refine ⟨_, rfl, a, _, dx, _, _, rfl, hS' _ _ ha, Z.cl_Cross, Z.na_Cross_first, rfl, _, rfl, by omega, by omega,
          for_range (lo := 0) (n := x.val + 1) (fun i σ H2 => ∃ (b2 : Option V) (vs : List V), σ = [some (.ref a), some (.int lf), some (.ref l), b2] ∧ Same H' (msk [l] H2) ∧ H2 l = some (.lst vs) ∧ All2 (TieR (msk [l] H2)) vs (((List.range (y.val + 1)).map fun (k : Nat) => .new [x.val + 1 + k]) ++ (List.range i).map fun (k : Nat) => .new [k])) ?_ ?_ ?_⟩
        · exact ⟨b2, vs, rfl, hS, hL, by simpa using hA⟩
        · rintro i σ H3 hi ⟨b2, vs, rfl, hS, hL, hA⟩
          have hS' := hS.trans (msk_same (H := H3))
          refine ⟨_, rfl, .inl ⟨rfl, _, SqL.of hL⟩, _, rfl, (by show 1 ≤ sizeLine; decide), fun p hp => ?_⟩
          have s1 : Same H3 (upd H3 p (.tup [.int (0 + (i : Int))])) := sm_new hp
          refine ⟨_, rfl, a, _, dx, _, _, rfl, s1 _ _ (hS' _ _ ha), Z.cl_Cross, Z.na_Cross_side, rfl, _, rfl, (by show 4 ≤ sizeLine; decide), fun t ht => ?_⟩
          have s2 := s1.trans (sm_new (o := .tup [.str "new", .ref p, .int (sdI b), .int lf]) ht)
          have hpl : p ≠ l := fun e => by rw [e, hL] at hp; cases hp
          have htl : t ≠ l := fun e => by rw [e, s1 _ _ hL] at ht; cases ht
          refine ⟨l, vs, _, rfl, rfl, s2 _ _ hL, szt (by rw [hA.1, List.length_append, List.length_map, List.length_map, List.length_range, List.length_range]; omega), _, _, rfl, ?_, upd_same, ?_⟩
          · rw [msk_upd (by simp)]
            exact hS.trans (msk_mono s2)
          · rw [msk_upd (by simp), show List.range (i + 1) = List.range i ++ [i] from List.range_succ, List.map_append, ← List.append_assoc]
            refine (hA.mono fun v x => TieR.mono (msk_mono s2)).snoc ⟨t, p, sdI b, lf, rfl, ?_, ?_⟩
            · rw [msk_out (by simpa using htl)]; exact upd_same
            · rw [msk_out (by simpa using hpl), sm_new ht _ _ upd_same, Int.zero_add]
              rfl
        · rintro σ H3 ⟨b2, vs, rfl, hS, hL, hA⟩
          refine ⟨_, rfl, k H3 l (hS.trans msk_same) hl ⟨vs, hL, ?_⟩⟩
          have e : Stch.ties (.cross x y v b) = ((List.range (y.val + 1)).map fun (k : Nat) => Tie.new [x.val + 1 + k]) ++ (List.range (x.val + 1)).map fun (k : Nat) => .new [k] := by
            show (((List.range (y.val + 1)).map fun k => [x.val + 1 + k]) ++ ((List.range (x.val + 1)).map fun k => [k])).map Tie.new = _
            rw [List.map_append, List.map_map, List.map_map]
            rfl
          rw [e]
          exact hA.mono fun v x => TieR.mono msk_same

/-! ### every stitch's methods -/
theorem c_takes (Z : Zt K mg) (st : Stch) : CalM P w K mg base (He.ga K (clsS st)) "takes" 1 ["self"] (spSTakes K st) := by
  cases st with
  | plain b => obtain ⟨fd, F⟩ := Z.du_Plain_takes; exact ⟨Z.cl_Plain, Z.me_Plain_takes, fd, ok_Stitch_takes F rfl, FunD.bindsN F fun _ _ _ _ _ _ us hl => match us, hl with | [_], _ => rfl⟩
  | slip => obtain ⟨fd, F⟩ := Z.du_Slip_takes; exact ⟨Z.cl_Slip, Z.me_Slip_takes, fd, ok_Stitch_takes F rfl, FunD.bindsN F fun _ _ _ _ _ _ us hl => match us, hl with | [_], _ => rfl⟩
  | over => obtain ⟨fd, F⟩ := Z.du_Over_takes; exact ⟨Z.cl_Over, Z.me_Over_takes, fd, ok_Over_takes F, FunD.bindsN F fun _ _ _ _ _ _ us hl => match us, hl with | [_], _ => rfl⟩
  | lean m r b => obtain ⟨fd, F⟩ := Z.du_Lean_takes; exact ⟨Z.cl_Lean, Z.me_Lean_takes, fd, ok_Lean_takes Z F m r b, FunD.bindsN F fun _ _ _ _ _ _ us hl => match us, hl with | [_], _ => rfl⟩
  | grow m b => obtain ⟨fd, F⟩ := Z.du_Grow_takes; exact ⟨Z.cl_Grow, Z.me_Grow_takes, fd, ok_Stitch_takes F rfl, FunD.bindsN F fun _ _ _ _ _ _ us hl => match us, hl with | [_], _ => rfl⟩
  | cross x y v b => obtain ⟨fd, F⟩ := Z.du_Cross_takes; exact ⟨Z.cl_Cross, Z.me_Cross_takes, fd, ok_Cross_takes Z F x y v b, FunD.bindsN F fun _ _ _ _ _ _ us hl => match us, hl with | [_], _ => rfl⟩
  | off => obtain ⟨fd, F⟩ := Z.du_Off_takes; exact ⟨Z.cl_Off, Z.me_Off_takes, fd, ok_Stitch_takes F rfl, FunD.bindsN F fun _ _ _ _ _ _ us hl => match us, hl with | [_], _ => rfl⟩
  | keep j => obtain ⟨fd, F⟩ := Z.du_Keep_takes; exact ⟨Z.cl_Keep, Z.me_Keep_takes, fd, ok_Stitch_takes F rfl, FunD.bindsN F fun _ _ _ _ _ _ us hl => match us, hl with | [_], _ => rfl⟩
  | fetch j => obtain ⟨fd, F⟩ := Z.du_Fetch_takes; exact ⟨Z.cl_Fetch, Z.me_Fetch_takes, fd, ok_Fetch_takes F j, FunD.bindsN F fun _ _ _ _ _ _ us hl => match us, hl with | [_], _ => rfl⟩
theorem c_ties (Z : Zt K mg) (st : Stch) : CalM P w K mg base (He.ga K (clsS st)) "ties" 1 ["self"] (spSTies K st) := by
  cases st with
  | plain b => obtain ⟨fd, F⟩ := Z.du_Plain_ties; exact ⟨Z.cl_Plain, Z.me_Plain_ties, fd, ok_Plain_ties Z F b, FunD.bindsN F fun _ _ _ _ _ _ us hl => match us, hl with | [_], _ => rfl⟩
  | slip => obtain ⟨fd, F⟩ := Z.du_Slip_ties; exact ⟨Z.cl_Slip, Z.me_Slip_ties, fd, ok_Slip_ties F, FunD.bindsN F fun _ _ _ _ _ _ us hl => match us, hl with | [_], _ => rfl⟩
  | over => obtain ⟨fd, F⟩ := Z.du_Over_ties; exact ⟨Z.cl_Over, Z.me_Over_ties, fd, ok_Over_ties F, FunD.bindsN F fun _ _ _ _ _ _ us hl => match us, hl with | [_], _ => rfl⟩
  | lean m r b => obtain ⟨fd, F⟩ := Z.du_Lean_ties; exact ⟨Z.cl_Lean, Z.me_Lean_ties, fd, ok_Lean_ties Z F m r b, FunD.bindsN F fun _ _ _ _ _ _ us hl => match us, hl with | [_], _ => rfl⟩
  | grow m b => obtain ⟨fd, F⟩ := Z.du_Grow_ties; exact ⟨Z.cl_Grow, Z.me_Grow_ties, fd, ok_Grow_ties Z F m b, FunD.bindsN F fun _ _ _ _ _ _ us hl => match us, hl with | [_], _ => rfl⟩
  | cross x y v b => obtain ⟨fd, F⟩ := Z.du_Cross_ties; exact ⟨Z.cl_Cross, Z.me_Cross_ties, fd, ok_Cross_ties Z F x y v b, FunD.bindsN F fun _ _ _ _ _ _ us hl => match us, hl with | [_], _ => rfl⟩
  | off => obtain ⟨fd, F⟩ := Z.du_Off_ties; exact ⟨Z.cl_Off, Z.me_Off_ties, fd, ok_Stitch_ties F rfl, FunD.bindsN F fun _ _ _ _ _ _ us hl => match us, hl with | [_], _ => rfl⟩
  | keep j => obtain ⟨fd, F⟩ := Z.du_Keep_ties; exact ⟨Z.cl_Keep, Z.me_Keep_ties, fd, ok_Stitch_ties F rfl, FunD.bindsN F fun _ _ _ _ _ _ us hl => match us, hl with | [_], _ => rfl⟩
  | fetch j => obtain ⟨fd, F⟩ := Z.du_Fetch_ties; exact ⟨Z.cl_Fetch, Z.me_Fetch_ties, fd, ok_Fetch_ties Z F j, FunD.bindsN F fun _ _ _ _ _ _ us hl => match us, hl with | [_], _ => rfl⟩
theorem c_ends (Z : Zt K mg) (st : Stch) : CalM P w K mg base (He.ga K (clsS st)) "ends" 1 ["self"] (spSEnds K st) := by
  cases st with
  | plain b => obtain ⟨fd, F⟩ := Z.du_Plain_ends; exact ⟨Z.cl_Plain, Z.me_Plain_ends, fd, ok_Stitch_ends F rfl, FunD.bindsN F fun _ _ _ _ _ _ us hl => match us, hl with | [_], _ => rfl⟩
  | slip => obtain ⟨fd, F⟩ := Z.du_Slip_ends; exact ⟨Z.cl_Slip, Z.me_Slip_ends, fd, ok_Stitch_ends F rfl, FunD.bindsN F fun _ _ _ _ _ _ us hl => match us, hl with | [_], _ => rfl⟩
  | over => obtain ⟨fd, F⟩ := Z.du_Over_ends; exact ⟨Z.cl_Over, Z.me_Over_ends, fd, ok_Stitch_ends F rfl, FunD.bindsN F fun _ _ _ _ _ _ us hl => match us, hl with | [_], _ => rfl⟩
  | lean m r b => obtain ⟨fd, F⟩ := Z.du_Lean_ends; exact ⟨Z.cl_Lean, Z.me_Lean_ends, fd, ok_Stitch_ends F rfl, FunD.bindsN F fun _ _ _ _ _ _ us hl => match us, hl with | [_], _ => rfl⟩
  | grow m b => obtain ⟨fd, F⟩ := Z.du_Grow_ends; exact ⟨Z.cl_Grow, Z.me_Grow_ends, fd, ok_Stitch_ends F rfl, FunD.bindsN F fun _ _ _ _ _ _ us hl => match us, hl with | [_], _ => rfl⟩
  | cross x y v b => obtain ⟨fd, F⟩ := Z.du_Cross_ends; exact ⟨Z.cl_Cross, Z.me_Cross_ends, fd, ok_Stitch_ends F rfl, FunD.bindsN F fun _ _ _ _ _ _ us hl => match us, hl with | [_], _ => rfl⟩
  | off => obtain ⟨fd, F⟩ := Z.du_Off_ends; exact ⟨Z.cl_Off, Z.me_Off_ends, fd, ok_Off_ends F, FunD.bindsN F fun _ _ _ _ _ _ us hl => match us, hl with | [_], _ => rfl⟩
  | keep j => obtain ⟨fd, F⟩ := Z.du_Keep_ends; exact ⟨Z.cl_Keep, Z.me_Keep_ends, fd, ok_Keep_ends Z F j, FunD.bindsN F fun _ _ _ _ _ _ us hl => match us, hl with | [_], _ => rfl⟩
  | fetch j => obtain ⟨fd, F⟩ := Z.du_Fetch_ends; exact ⟨Z.cl_Fetch, Z.me_Fetch_ends, fd, ok_Stitch_ends F rfl, FunD.bindsN F fun _ _ _ _ _ _ us hl => match us, hl with | [_], _ => rfl⟩
theorem fld_no (st : Stch) : (fldS st).lookup ("takes" : Str) = none ∧ (fldS st).lookup ("ties" : Str) = none ∧ (fldS st).lookup ("ends" : Str) = none := by
  cases st <;> exact ⟨rfl, rfl, rfl⟩
end K34
set_option autoImplicit true
set_option Elab.async false
set_option linter.all false
set_option maxRecDepth 100000
set_option maxHeartbeats 4000000
namespace K34
open PySem PySem.Spec PyProof.Rows L2
variable {P : Program} {w : World} {K : PySem.W.Frag} {mg : Str → Option Value} {base : Heap}

/-! ### stitches made -/
def spMake (K : PySem.W.Frag) (args : Stch → List V) (ok : Stch → Prop) : Sp := fun vs H Q _ => ∃ (p dx : Addr) (st : Stch), ok st ∧ vs = .ref p :: args st ∧ H p = some (.ins (He.ga K (clsS st)) dx []) ∧ Q .non (upd H p (.ins (He.ga K (clsS st)) dx (fldS st)))
theorem putF_ne {f g : Str} {v u : V} {r : List (Str × V)} (h : ¬ g = f) : putF f v ((g, u) :: r) = (g, u) :: putF f v r := if_neg h
theorem putF_nil {f : Str} {v : V} : putF f v [] = [(f, v)] := rfl
/-- the arguments by which a stitch is made -/
def argS : Stch → List V := fun st => (fldS st).map fun q => q.2
def isPlain : Stch → Prop | .plain _ => True | _ => False
def isLean : Stch → Prop | .lean _ _ _ => True | _ => False
def isGrow : Stch → Prop | .grow _ _ => True | _ => False
def isCross : Stch → Prop | .cross _ _ _ _ => True | _ => False
def isKeep : Stch → Prop | .keep _ => True | _ => False
def isFetch : Stch → Prop | .fetch _ => True | _ => False
theorem sc_Plain_init : FnScope ["self", "side"] ["self", "side"] (defScope s_Plain_init) := ⟨rfl, rfl, rfl, by decide +kernel, rfl, by decide +kernel, by decide +kernel⟩
theorem i_Plain (Z : Zt K mg) : CalI P w K mg base "Plain" 1 ["self", "side"] (spMake K argS isPlain) := by
  obtain ⟨fd, F⟩ := Z.du_Plain_init
  refine ⟨Z.gl_Plain, Z.mk_Plain, fd, F.ok sc_Plain_init (fun vs H Q E h => ?_) (fun cdv A outer s H vs Q E hr h => ?_), FunD.bindsN F fun _ _ _ _ _ _ us hl => match us, hl with | [_, _], _ => rfl⟩
  · obtain ⟨p, dx, st, hs, rfl, _⟩ := h
    cases st <;> first | rfl | cases hs
  · obtain ⟨p, dx, st, hs, rfl, hp, k⟩ := h
    cases st with
    | plain f =>
      refine ⟨_, PSs.nox (pss_one (ps_fld (pv 0) (pv 1) rfl)), ?_⟩
      exact ⟨_, rfl, _, rfl, p, _, dx, _, rfl, hp, Z.cl_Plain, Z.na_Plain_side, (by show 0 < 1000; decide), k⟩
    | _ => cases hs
theorem sc_Keep_init : FnScope ["self", "keeper"] ["self", "keeper"] (defScope s_Keep_init) := ⟨rfl, rfl, rfl, by decide +kernel, rfl, by decide +kernel, by decide +kernel⟩
theorem i_Keep (Z : Zt K mg) : CalI P w K mg base "Keep" 1 ["self", "keeper"] (spMake K argS isKeep) := by
  obtain ⟨fd, F⟩ := Z.du_Keep_init
  refine ⟨Z.gl_Keep, Z.mk_Keep, fd, F.ok sc_Keep_init (fun vs H Q E h => ?_) (fun cdv A outer s H vs Q E hr h => ?_), FunD.bindsN F fun _ _ _ _ _ _ us hl => match us, hl with | [_, _], _ => rfl⟩
  · obtain ⟨p, dx, st, hs, rfl, _⟩ := h
    cases st <;> first | rfl | cases hs
  · obtain ⟨p, dx, st, hs, rfl, hp, k⟩ := h
    cases st with
    | keep j =>
      refine ⟨_, PSs.nox (pss_one (ps_fld (pv 0) (pv 1) rfl)), ?_⟩
      exact ⟨_, rfl, _, rfl, p, _, dx, _, rfl, hp, Z.cl_Keep, Z.na_Keep_keeper, (by show 0 < 1000; decide), k⟩
    | _ => cases hs
theorem sc_Fetch_init : FnScope ["self", "keeper"] ["self", "keeper"] (defScope s_Fetch_init) := ⟨rfl, rfl, rfl, by decide +kernel, rfl, by decide +kernel, by decide +kernel⟩
theorem i_Fetch (Z : Zt K mg) : CalI P w K mg base "Fetch" 1 ["self", "keeper"] (spMake K argS isFetch) := by
  obtain ⟨fd, F⟩ := Z.du_Fetch_init
  refine ⟨Z.gl_Fetch, Z.mk_Fetch, fd, F.ok sc_Fetch_init (fun vs H Q E h => ?_) (fun cdv A outer s H vs Q E hr h => ?_), FunD.bindsN F fun _ _ _ _ _ _ us hl => match us, hl with | [_, _], _ => rfl⟩
  · obtain ⟨p, dx, st, hs, rfl, _⟩ := h
    cases st <;> first | rfl | cases hs
  · obtain ⟨p, dx, st, hs, rfl, hp, k⟩ := h
    cases st with
    | fetch j =>
      refine ⟨_, PSs.nox (pss_one (ps_fld (pv 0) (pv 1) rfl)), ?_⟩
      exact ⟨_, rfl, _, rfl, p, _, dx, _, rfl, hp, Z.cl_Fetch, Z.na_Fetch_keeper, (by show 0 < 1000; decide), k⟩
    | _ => cases hs
theorem sc_Grow_init : FnScope ["self", "many", "side"] ["self", "many", "side"] (defScope s_Grow_init) := ⟨rfl, rfl, rfl, by decide +kernel, rfl, by decide +kernel, by decide +kernel⟩
theorem i_Grow (Z : Zt K mg) : CalI P w K mg base "Grow" 1 ["self", "many", "side"] (spMake K argS isGrow) := by
  obtain ⟨fd, F⟩ := Z.du_Grow_init
  refine ⟨Z.gl_Grow, Z.mk_Grow, fd, F.ok sc_Grow_init (fun vs H Q E h => ?_) (fun cdv A outer s H vs Q E hr h => ?_), FunD.bindsN F fun _ _ _ _ _ _ us hl => match us, hl with | [_, _, _], _ => rfl⟩
  · obtain ⟨p, dx, st, hs, rfl, _⟩ := h
    cases st <;> first | rfl | cases hs
  · obtain ⟨p, dx, st, hs, rfl, hp, k⟩ := h
    cases st with
    | grow m f =>
      refine ⟨_, PSs.nox (pss_cons (ps_fld (pv 0) (pv 1) rfl)
      (pss_one (ps_fld (pv 0) (pv 2) rfl))), ?_⟩
      refine ⟨_, rfl, _, rfl, p, _, dx, _, rfl, hp, Z.cl_Grow, Z.na_Grow_many, (by show 0 < 1000; decide), _, rfl, _, rfl, p, _, dx, _, rfl, upd_same, Z.cl_Grow, Z.na_Grow_side, (by show 1 < 1000; decide), ?_⟩
      rw [upd_upd, putF_nil, putF_ne (by decide +kernel), putF_nil]
      exact k
    | _ => cases hs
theorem sc_Lean_init : FnScope ["self", "many", "way", "side"] ["self", "many", "way", "side"] (defScope s_Lean_init) := ⟨rfl, rfl, rfl, by decide +kernel, rfl, by decide +kernel, by decide +kernel⟩
theorem i_Lean (Z : Zt K mg) : CalI P w K mg base "Lean" 1 ["self", "many", "way", "side"] (spMake K argS isLean) := by
  obtain ⟨fd, F⟩ := Z.du_Lean_init
  refine ⟨Z.gl_Lean, Z.mk_Lean, fd, F.ok sc_Lean_init (fun vs H Q E h => ?_) (fun cdv A outer s H vs Q E hr h => ?_), FunD.bindsN F fun _ _ _ _ _ _ us hl => match us, hl with | [_, _, _, _], _ => rfl⟩
  · obtain ⟨p, dx, st, hs, rfl, _⟩ := h
    cases st <;> first | rfl | cases hs
  · obtain ⟨p, dx, st, hs, rfl, hp, k⟩ := h
    cases st with
    | lean m r f =>
      refine ⟨_, PSs.nox (pss_cons (ps_fld (pv 0) (pv 1) rfl)
      (pss_cons (ps_fld (pv 0) (pv 2) rfl)
      (pss_one (ps_fld (pv 0) (pv 3) rfl)))), ?_⟩
      refine ⟨_, rfl, _, rfl, p, _, dx, _, rfl, hp, Z.cl_Lean, Z.na_Lean_many, (by show 0 < 1000; decide), _, rfl, _, rfl, p, _, dx, _, rfl, upd_same, Z.cl_Lean, Z.na_Lean_way, (by show 1 < 1000; decide), ?_⟩
      rw [upd_upd, putF_nil, putF_ne (by decide +kernel), putF_nil]
      refine ⟨_, rfl, _, rfl, p, _, dx, _, rfl, upd_same, Z.cl_Lean, Z.na_Lean_side, (by show 2 < 1000; decide), ?_⟩
      rw [upd_upd, putF_ne (by decide +kernel), putF_ne (by decide +kernel), putF_nil]
      exact k
    | _ => cases hs
theorem sc_Cross_init : FnScope ["self", "first", "second", "way", "side"] ["self", "first", "second", "way", "side"] (defScope s_Cross_init) := ⟨rfl, rfl, rfl, by decide +kernel, rfl, by decide +kernel, by decide +kernel⟩
theorem i_Cross (Z : Zt K mg) : CalI P w K mg base "Cross" 1 ["self", "first", "second", "way", "side"] (spMake K argS isCross) := by
  obtain ⟨fd, F⟩ := Z.du_Cross_init
  refine ⟨Z.gl_Cross, Z.mk_Cross, fd, F.ok sc_Cross_init (fun vs H Q E h => ?_) (fun cdv A outer s H vs Q E hr h => ?_), FunD.bindsN F fun _ _ _ _ _ _ us hl => match us, hl with | [_, _, _, _, _], _ => rfl⟩
  · obtain ⟨p, dx, st, hs, rfl, _⟩ := h
    cases st <;> first | rfl | cases hs
  · obtain ⟨p, dx, st, hs, rfl, hp, k⟩ := h
    cases st with
    | cross x y v f =>
      refine ⟨_, PSs.nox (pss_cons (ps_fld (pv 0) (pv 1) rfl)
      (pss_cons (ps_fld (pv 0) (pv 2) rfl)
      (pss_cons (ps_fld (pv 0) (pv 3) rfl)
      (pss_one (ps_fld (pv 0) (pv 4) rfl))))), ?_⟩
      refine ⟨_, rfl, _, rfl, p, _, dx, _, rfl, hp, Z.cl_Cross, Z.na_Cross_first, (by show 0 < 1000; decide), _, rfl, _, rfl, p, _, dx, _, rfl, upd_same, Z.cl_Cross, Z.na_Cross_second, (by show 1 < 1000; decide), ?_⟩
      rw [upd_upd, putF_nil, putF_ne (by decide +kernel), putF_nil]
      refine ⟨_, rfl, _, rfl, p, _, dx, _, rfl, upd_same, Z.cl_Cross, Z.na_Cross_way, (by show 2 < 1000; decide), ?_⟩
      rw [upd_upd, putF_ne (by decide +kernel), putF_ne (by decide +kernel), putF_nil]
      refine ⟨_, rfl, _, rfl, p, _, dx, _, rfl, upd_same, Z.cl_Cross, Z.na_Cross_side, (by show 3 < 1000; decide), ?_⟩
      rw [upd_upd, putF_ne (by decide +kernel), putF_ne (by decide +kernel), putF_ne (by decide +kernel), putF_nil]
      exact k
    | _ => cases hs
/-- a new stitch -/
theorem made_st {K : PySem.W.Frag} {H : Hp} {x dx : Addr} {st : Stch} (nx : H x = none) (nd : H dx = none) (ne : dx ≠ x) :
    Same H (upd (upd (upd H dx (.own x)) x (.ins (He.ga K (clsS st)) dx [])) x (.ins (He.ga K (clsS st)) dx (fldS st))) ∧ StR K (upd (upd (upd H dx (.own x)) x (.ins (He.ga K (clsS st)) dx [])) x (.ins (He.ga K (clsS st)) dx (fldS st))) (.ref x) st :=
  ⟨sm_upd (sm_upd (sm_new nd) nx) nx, x, dx, rfl, upd_same⟩

/-! ### marks -/
def mkL : Stch → List Nat
  | .plain f => [if f then 107 else 112] | .slip => [115] | .over => [111]
  | .lean m r f => [if f then 107 else 112, 50 + m.val, if r then 114 else 108]
  | .grow m f => [if f then 107 else 112, 120, 50 + m.val]
  | .cross a b v f => [if f then 99 else 113, 49 + a.val, if v then 102 else 98, 49 + b.val]
  | .off => [98] | .keep k => [104, k.code] | .fetch k => [102, k.code]
def mkS (st : Stch) : Str := ⟨(mkL st).toArray⟩
def isShort (st : Stch) : Bool := decide ((mkL st).length ≤ 2)
/-- .. if x == y: (not so) -/
theorem skip0 {σ : L2.St} {H : Hp} {D : Ends} {z y : Str} {t u : TS} (hz : σ[0]? = some (some (.str z))) (h : decide (V.str z = V.str y) = false) (k : u D σ H) : tSeq (tIfS (tTest (tOp rEq (tVar 0) (tC (.str y)))) t tNext) u D σ H := by
  refine ⟨_, hz, rfl, _, rfl, ?_⟩
  rw [h]
  exact iteF k
theorem take0 {σ : L2.St} {H : Hp} {D : Ends} {z y : Str} {t u : TS} (hz : σ[0]? = some (some (.str z))) (h : decide (V.str z = V.str y) = true) (k : t { D with nx := u D } σ H) : tSeq (tIfS (tTest (tOp rEq (tVar 0) (tC (.str y)))) t tNext) u D σ H := by
  refine ⟨_, hz, rfl, _, rfl, ?_⟩
  rw [h]
  exact iteT k
def spMark (K : PySem.W.Frag) (ok : Stch → Prop) : Sp := fun vs H Q _ => ∃ st : Stch, ok st ∧ vs = [.str (mkS st)] ∧ ∀ H' v, Same H H' → StR K H' v st → Q v H'
theorem sc_short_one : FnScope ["mark"] ["mark"] (defScope s_short_one) := ⟨rfl, rfl, rfl, by decide +kernel, rfl, by decide +kernel, by decide +kernel⟩
theorem ok_short_one (Z : Zt K mg) : Cal P w K mg base "short_one" 3 ["mark"] (spMark K fun st => isShort st = true) := by
  obtain ⟨fd, F⟩ := Z.du_short_one
  obtain ⟨tk, hK⟩ := Z.st_KEEPERS_marks
  have c_Plain : CalI P w K mg base "Plain" 1 ["self", "side"] (spMake K argS isPlain) := i_Plain Z
  have c_Keep : CalI P w K mg base "Keep" 1 ["self", "keeper"] (spMake K argS isKeep) := i_Keep Z
  have c_Fetch : CalI P w K mg base "Fetch" 1 ["self", "keeper"] (spMake K argS isFetch) := i_Fetch Z
  refine ⟨Z.gl_short_one, F.kp, fd, F.ok (k := 2) sc_short_one (fun vs H Q E h => ?_) (fun cdv A outer s H vs Q E hr h => ?_), FunD.bindsN F fun _ _ _ _ _ _ us hl => match us, hl with | [_], _ => rfl⟩
  · obtain ⟨st, hs, rfl, _⟩ := h
    rfl
  · obtain ⟨st, hs, rfl, k⟩ := h
    refine ⟨_, PSs.nox (pss_cons (ps_if (pt_cmpR op_eq (pv 0) pe_str (nomark _)) (pss_one (ps_ret (pe_cali c_Plain (hr.mono (by decide)) (by rfl) (pa_cons pe_int pa_nil)))) pss_nil)
      (pss_cons (ps_if (pt_cmpR op_eq (pv 0) pe_str (nomark _)) (pss_one (ps_ret (pe_cali c_Plain (hr.mono (by decide)) (by rfl) (pa_cons (pe_un un_neg pe_int) pa_nil)))) pss_nil)
      (pss_cons (ps_if (pt_cmpR op_eq (pv 0) pe_str (nomark _)) (pss_one (ps_ret (pe_bare Z.ba_Slip (by rfl) Z.gl_Slip))) pss_nil)
      (pss_cons (ps_if (pt_cmpR op_eq (pv 0) pe_str (nomark _)) (pss_one (ps_ret (pe_bare Z.ba_Over (by rfl) Z.gl_Over))) pss_nil)
      (pss_cons (ps_if (pt_cmpR op_eq (pv 0) pe_str (nomark _)) (pss_one (ps_ret (pe_bare Z.ba_Off (by rfl) Z.gl_Off))) pss_nil)
      (pss_cons (ps_if (PW.pt (pw_and (pt_cmpR op_eq (pe_callB call_len_str (by rfl) Z.fr_len PySem.boot_len (pa_cons (pv 0) pa_nil)) pe_int (nomark _)) (pw_and1 (pt_cmpR op_in_sign (pe_ix ix_str (pv 0) pe_int (fun _ _ => rfl)) (pe_glob (v := .str "wxyz") (by rfl) hK ⟨tk, rfl⟩) (by rfl))))) (pss_cons (ps_if (pt_cmpR op_eq (pe_ix ix_str (pv 0) pe_int (fun _ _ => rfl)) pe_str (nomark _)) (pss_one (ps_ret (pe_cali c_Keep (hr.mono (by decide)) (by rfl) (pa_cons (pe_ix ix_str (pv 0) pe_int (fun _ _ => rfl)) pa_nil)))) pss_nil)
      (pss_one (ps_if (pt_cmpR op_eq (pe_ix ix_str (pv 0) pe_int (fun _ _ => rfl)) pe_str (nomark _)) (pss_one (ps_ret (pe_cali c_Fetch (hr.mono (by decide)) (by rfl) (pa_cons (pe_ix ix_str (pv 0) pe_int (fun _ _ => rfl)) pa_nil)))) pss_nil))) pss_nil)
      (pss_one (ps_ret pe_non)))))))), ?_⟩
    cases st with
    | plain f =>
      cases f with
      | true =>
        refine take0 rfl (by decide +kernel) ?_
        intro x dx nx nd ne
        obtain ⟨q1, q2⟩ := made_st (K := K) (st := .plain true) nx nd ne
        exact ⟨x, dx, .plain true, True.intro, rfl, upd_same, rfl, k _ _ q1 q2⟩
      | false =>
        refine skip0 rfl (by decide +kernel) ?_
        refine take0 rfl (by decide +kernel) ?_
        refine ⟨_, rfl, ?_⟩
        intro x dx nx nd ne
        obtain ⟨q1, q2⟩ := made_st (K := K) (st := .plain false) nx nd ne
        exact ⟨x, dx, .plain false, True.intro, rfl, upd_same, rfl, k _ _ q1 q2⟩
    | slip =>
      refine skip0 rfl (by decide +kernel) (skip0 rfl (by decide +kernel) (take0 rfl (by decide +kernel) ?_))
      intro x dx nx nd ne
      exact k _ _ (sm_upd (sm_new nd) nx) ⟨x, dx, rfl, upd_same⟩
    | over =>
      refine skip0 rfl (by decide +kernel) (skip0 rfl (by decide +kernel) (skip0 rfl (by decide +kernel) (take0 rfl (by decide +kernel) ?_)))
      intro x dx nx nd ne
      exact k _ _ (sm_upd (sm_new nd) nx) ⟨x, dx, rfl, upd_same⟩
    | off =>
      refine skip0 rfl (by decide +kernel) (skip0 rfl (by decide +kernel) (skip0 rfl (by decide +kernel) (skip0 rfl (by decide +kernel) (take0 rfl (by decide +kernel) ?_))))
      intro x dx nx nd ne
      exact k _ _ (sm_upd (sm_new nd) nx) ⟨x, dx, rfl, upd_same⟩
    | keep j =>
      refine skip0 rfl (by cases j <;> decide +kernel) (skip0 rfl (by cases j <;> decide +kernel) (skip0 rfl (by cases j <;> decide +kernel) (skip0 rfl (by cases j <;> decide +kernel) (skip0 rfl (by cases j <;> decide +kernel) ?_))))
      refine ⟨_, rfl, _, rfl, (by show 2 ≤ sizeLine; decide), rfl, true, rfl, iteT ?_⟩
      refine ⟨_, rfl, _, 1, j.code, rfl, rfl, (by show 2 ≤ sizeLine; decide), rfl, _, _, rfl, rfl, true, (by cases j <;> decide +kernel), iteT ?_⟩
      refine ⟨_, rfl, _, 0, 104, rfl, rfl, (by show 2 ≤ sizeLine; decide), rfl, rfl, true, (by decide +kernel), iteT ?_⟩
      refine ⟨_, rfl, _, 1, j.code, rfl, rfl, (by show 2 ≤ sizeLine; decide), rfl, ?_⟩
      intro x dx nx nd ne
      obtain ⟨q1, q2⟩ := made_st (K := K) (st := .keep j) nx nd ne
      exact ⟨x, dx, .keep j, True.intro, rfl, upd_same, rfl, k _ _ q1 q2⟩
    | fetch j =>
      refine skip0 rfl (by cases j <;> decide +kernel) (skip0 rfl (by cases j <;> decide +kernel) (skip0 rfl (by cases j <;> decide +kernel) (skip0 rfl (by cases j <;> decide +kernel) (skip0 rfl (by cases j <;> decide +kernel) ?_))))
      refine ⟨_, rfl, _, rfl, (by show 2 ≤ sizeLine; decide), rfl, true, rfl, iteT ?_⟩
      refine ⟨_, rfl, _, 1, j.code, rfl, rfl, (by show 2 ≤ sizeLine; decide), rfl, _, _, rfl, rfl, true, (by cases j <;> decide +kernel), iteT ?_⟩
      refine ⟨_, rfl, _, 0, 102, rfl, rfl, (by show 2 ≤ sizeLine; decide), rfl, rfl, false, (by decide +kernel), iteF ?_⟩
      refine ⟨_, rfl, _, 0, 102, rfl, rfl, (by show 2 ≤ sizeLine; decide), rfl, rfl, true, (by decide +kernel), iteT ?_⟩
      refine ⟨_, rfl, _, 1, j.code, rfl, rfl, (by show 2 ≤ sizeLine; decide), rfl, ?_⟩
      intro x dx nx nd ne
      obtain ⟨q1, q2⟩ := made_st (K := K) (st := .fetch j) nx nd ne
      exact ⟨x, dx, .fetch j, True.intro, rfl, upd_same, rfl, k _ _ q1 q2⟩
    | lean m r f => exact absurd hs (by simp [isShort, mkL])
    | grow m f => exact absurd hs (by simp [isShort, mkL])
    | cross a b v f => exact absurd hs (by simp [isShort, mkL])

theorem dig3 : ∀ m : Fin 3, PySem.intText? ⟨#[50 + m.val]⟩ = some ((m.val + 2 : Nat) : Int) := by decide +kernel
theorem dig4 : ∀ m : Fin 4, PySem.intText? ⟨#[49 + m.val]⟩ = some ((m.val + 1 : Nat) : Int) := by decide +kernel
theorem in3 : ∀ m : Fin 3, decide ((50 + m.val) ∈ ("234" : Str).cps.toList) = true := by decide +kernel
theorem in4 : ∀ m : Fin 4, decide ((49 + m.val) ∈ ("1234" : Str).cps.toList) = true := by decide +kernel
theorem way_rl (r : Bool) : (⟨#[if r then 114 else 108]⟩ : Str) = (if r then "r" else "l") := by cases r <;> decide +kernel
theorem way_fb (v : Bool) : (⟨#[if v then 102 else 98]⟩ : Str) = (if v then "f" else "b") := by cases v <;> decide +kernel
theorem sc_long_one : FnScope ["mark", "side"] ["mark"] (defScope s_long_one) := ⟨rfl, rfl, rfl, by decide +kernel, rfl, by decide +kernel, by decide +kernel⟩
theorem ok_long_one (Z : Zt K mg) : Cal P w K mg base "long_one" 3 ["mark"] (spMark K fun st => isShort st = false) := by
  obtain ⟨fd, F⟩ := Z.du_long_one
  have c_Lean : CalI P w K mg base "Lean" 1 ["self", "many", "way", "side"] (spMake K argS isLean) := i_Lean Z
  have c_Grow : CalI P w K mg base "Grow" 1 ["self", "many", "side"] (spMake K argS isGrow) := i_Grow Z
  have c_Cross : CalI P w K mg base "Cross" 1 ["self", "first", "second", "way", "side"] (spMake K argS isCross) := i_Cross Z
  refine ⟨Z.gl_long_one, F.kp, fd, F.ok (k := 2) sc_long_one (fun vs H Q E h => ?_) (fun cdv A outer s H vs Q E hr h => ?_), FunD.bindsN F fun _ _ _ _ _ _ us hl => match us, hl with | [_], _ => rfl⟩
  · obtain ⟨st, hs, rfl, _⟩ := h
    rfl
  · obtain ⟨st, hs, rfl, k⟩ := h
    refine ⟨_, PSs.nox (pss_cons (ps_set (i := 1) sc_long_one.nd rfl (Or.inl rfl) (pe_un un_neg pe_int))
      (Evl.pss_cut (ps_if (pt_cmpR op_in_sign (pe_ix ix_str (pv 0) pe_int (fun _ _ => rfl)) pe_str (by rfl)) (pss_one (ps_set (i := 1) sc_long_one.nd rfl (Or.inl rfl) pe_int)) pss_nil)
      (pss_cons (ps_if (PW.pt (pw_and (pt_cmpR op_eq (pe_callB call_len_str (by rfl) Z.fr_len PySem.boot_len (pa_cons (pv 0) pa_nil)) pe_int (nomark _)) (pw_and1 (pt_cmpR op_in_sign (pe_ix ix_str (pv 0) pe_int (fun _ _ => rfl)) pe_str (by rfl))))) (pss_cons (ps_if (PW.pt (pw_and (pt_cmpR op_in_sign (pe_ix ix_str (pv 0) pe_int (fun _ _ => rfl)) pe_str (by rfl)) (pw_and1 (pt_cmpR op_in_sign (pe_ix ix_str (pv 0) pe_int (fun _ _ => rfl)) pe_str (by rfl))))) (pss_one (ps_ret (pe_cali c_Lean (hr.mono (by decide)) (by rfl) (pa_cons (pe_callTy call_int_str (by rfl) Z.fr_int (by decide +kernel) (pa_cons (pe_ix ix_str (pv 0) pe_int (fun _ _ => rfl)) pa_nil)) (pa_cons (pe_ix ix_str (pv 0) pe_int (fun _ _ => rfl)) (pa_cons (pv 1) pa_nil)))))) pss_nil)
      (pss_one (ps_if (PW.pt (pw_and (pt_cmpR op_eq (pe_ix ix_str (pv 0) pe_int (fun _ _ => rfl)) pe_str (nomark _)) (pw_and1 (pt_cmpR op_in_sign (pe_ix ix_str (pv 0) pe_int (fun _ _ => rfl)) pe_str (by rfl))))) (pss_one (ps_ret (pe_cali c_Grow (hr.mono (by decide)) (by rfl) (pa_cons (pe_callTy call_int_str (by rfl) Z.fr_int (by decide +kernel) (pa_cons (pe_ix ix_str (pv 0) pe_int (fun _ _ => rfl)) pa_nil)) (pa_cons (pv 1) pa_nil))))) pss_nil))) pss_nil)
      (pss_cons (ps_if (PW.pt (pw_and (pt_cmpR op_eq (pe_callB call_len_str (by rfl) Z.fr_len PySem.boot_len (pa_cons (pv 0) pa_nil)) pe_int (nomark _)) (pw_and (pt_cmpR op_in_sign (pe_ix ix_str (pv 0) pe_int (fun _ _ => rfl)) pe_str (by rfl)) (pw_and1 (pt_cmpR op_in_sign (pe_ix ix_str (pv 0) pe_int (fun _ _ => rfl)) pe_str (by rfl)))))) (pss_one (ps_if (PW.pt (pw_and (pt_cmpR op_in_sign (pe_ix ix_str (pv 0) pe_int (fun _ _ => rfl)) pe_str (by rfl)) (pw_and1 (pt_cmpR op_in_sign (pe_ix ix_str (pv 0) pe_int (fun _ _ => rfl)) pe_str (by rfl))))) (pss_one (ps_ret (pe_cali c_Cross (hr.mono (by decide)) (by rfl) (pa_cons (pe_callTy call_int_str (by rfl) Z.fr_int (by decide +kernel) (pa_cons (pe_ix ix_str (pv 0) pe_int (fun _ _ => rfl)) pa_nil)) (pa_cons (pe_callTy call_int_str (by rfl) Z.fr_int (by decide +kernel) (pa_cons (pe_ix ix_str (pv 0) pe_int (fun _ _ => rfl)) pa_nil)) (pa_cons (pe_ix ix_str (pv 0) pe_int (fun _ _ => rfl)) (pa_cons (pv 1) pa_nil))))))) pss_nil)) pss_nil)
      (pss_one (ps_ret pe_non)))))), ?_⟩
    refine ⟨1, rfl, ?_⟩
    cases st with
    | lean m r f =>
      refine ⟨fun σ' H' => σ' = [some (.str (mkS (.lean m r f))), some (.int (sdI f))] ∧ H' = H, ?_, ?_⟩
      · refine ⟨_, rfl, _, 0, (if f then 107 else 112), rfl, rfl, (by show 3 ≤ sizeLine; decide), rfl, _, _, rfl, rfl, f, (by cases f <;> decide +kernel), ?_⟩
        cases f with
        | true => exact iteT ⟨rfl, rfl⟩
        | false => exact iteF ⟨rfl, rfl⟩
      · rintro σ' H' ⟨rfl, rfl⟩
        refine ⟨_, rfl, _, rfl, (by show 3 ≤ sizeLine; decide), rfl, true, rfl, iteT ?_⟩
        refine ⟨_, rfl, _, 0, (if f then 107 else 112), rfl, rfl, (by show 3 ≤ sizeLine; decide), rfl, _, _, rfl, rfl, true, (by cases f <;> decide +kernel), iteT ?_⟩
        refine ⟨_, rfl, _, 1, 50 + m.val, rfl, rfl, (by show 3 ≤ sizeLine; decide), rfl, _, _, rfl, rfl, true, congrArg V.bl (in3 m), iteT ?_⟩
        refine ⟨_, rfl, _, 2, (if r then 114 else 108), rfl, rfl, (by show 3 ≤ sizeLine; decide), rfl, _, _, rfl, rfl, true, (by cases r <;> decide +kernel), iteT ?_⟩
        refine ⟨_, rfl, _, 1, 50 + m.val, rfl, rfl, (by show 3 ≤ sizeLine; decide), rfl, _, _, rfl, dig3 m, (by show 1 ≤ 640; decide), _, rfl, _, 2, (if r then 114 else 108), rfl, rfl, (by show 3 ≤ sizeLine; decide), rfl, _, rfl, ?_⟩
        intro x dx nx nd ne
        obtain ⟨q1, q2⟩ := made_st (K := K) (st := .lean m r f) nx nd ne
        refine ⟨x, dx, .lean m r f, True.intro, ?_, upd_same, rfl, k _ _ q1 q2⟩
        rw [way_rl]
        cases r <;> rfl
    | grow m f =>
      refine ⟨fun σ' H' => σ' = [some (.str (mkS (.grow m f))), some (.int (sdI f))] ∧ H' = H, ?_, ?_⟩
      · refine ⟨_, rfl, _, 0, (if f then 107 else 112), rfl, rfl, (by show 3 ≤ sizeLine; decide), rfl, _, _, rfl, rfl, f, (by cases f <;> decide +kernel), ?_⟩
        cases f with
        | true => exact iteT ⟨rfl, rfl⟩
        | false => exact iteF ⟨rfl, rfl⟩
      · rintro σ' H' ⟨rfl, rfl⟩
        refine ⟨_, rfl, _, rfl, (by show 3 ≤ sizeLine; decide), rfl, true, rfl, iteT ?_⟩
        refine ⟨_, rfl, _, 0, (if f then 107 else 112), rfl, rfl, (by show 3 ≤ sizeLine; decide), rfl, _, _, rfl, rfl, true, (by cases f <;> decide +kernel), iteT ?_⟩
        refine ⟨_, rfl, _, 1, 120, rfl, rfl, (by show 3 ≤ sizeLine; decide), rfl, _, _, rfl, rfl, false, (by decide +kernel), iteF (iteF ?_)⟩
        refine ⟨_, rfl, _, 1, 120, rfl, rfl, (by show 3 ≤ sizeLine; decide), rfl, rfl, true, (by decide +kernel), iteT ?_⟩
        refine ⟨_, rfl, _, 2, 50 + m.val, rfl, rfl, (by show 3 ≤ sizeLine; decide), rfl, _, _, rfl, rfl, true, congrArg V.bl (in3 m), iteT ?_⟩
        refine ⟨_, rfl, _, 2, 50 + m.val, rfl, rfl, (by show 3 ≤ sizeLine; decide), rfl, _, _, rfl, dig3 m, (by show 1 ≤ 640; decide), _, rfl, ?_⟩
        intro x dx nx nd ne
        obtain ⟨q1, q2⟩ := made_st (K := K) (st := .grow m f) nx nd ne
        exact ⟨x, dx, .grow m f, True.intro, rfl, upd_same, rfl, k _ _ q1 q2⟩
    | cross a b v f =>
      refine ⟨fun σ' H' => σ' = [some (.str (mkS (.cross a b v f))), some (.int (sdI f))] ∧ H' = H, ?_, ?_⟩
      · refine ⟨_, rfl, _, 0, (if f then 99 else 113), rfl, rfl, (by show 4 ≤ sizeLine; decide), rfl, _, _, rfl, rfl, f, (by cases f <;> decide +kernel), ?_⟩
        cases f with
        | true => exact iteT ⟨rfl, rfl⟩
        | false => exact iteF ⟨rfl, rfl⟩
      · rintro σ' H' ⟨rfl, rfl⟩
        refine ⟨_, rfl, _, rfl, (by show 4 ≤ sizeLine; decide), rfl, false, rfl, iteF (iteF ?_)⟩
        refine ⟨_, rfl, _, rfl, (by show 4 ≤ sizeLine; decide), rfl, true, rfl, iteT ?_⟩
        refine ⟨_, rfl, _, 0, (if f then 99 else 113), rfl, rfl, (by show 4 ≤ sizeLine; decide), rfl, _, _, rfl, rfl, true, (by cases f <;> decide +kernel), iteT ?_⟩
        refine ⟨_, rfl, _, 2, (if v then 102 else 98), rfl, rfl, (by show 4 ≤ sizeLine; decide), rfl, _, _, rfl, rfl, true, (by cases v <;> decide +kernel), iteT ?_⟩
        refine ⟨_, rfl, _, 1, 49 + a.val, rfl, rfl, (by show 4 ≤ sizeLine; decide), rfl, _, _, rfl, rfl, true, congrArg V.bl (in4 a), iteT ?_⟩
        refine ⟨_, rfl, _, 3, 49 + b.val, rfl, rfl, (by show 4 ≤ sizeLine; decide), rfl, _, _, rfl, rfl, true, congrArg V.bl (in4 b), iteT ?_⟩
        refine ⟨_, rfl, _, 1, 49 + a.val, rfl, rfl, (by show 4 ≤ sizeLine; decide), rfl, _, _, rfl, dig4 a, (by show 1 ≤ 640; decide), _, rfl, _, 3, 49 + b.val, rfl, rfl, (by show 4 ≤ sizeLine; decide), rfl, _, _, rfl, dig4 b, (by show 1 ≤ 640; decide),
          _, rfl, _, 2, (if v then 102 else 98), rfl, rfl, (by show 4 ≤ sizeLine; decide), rfl, _, rfl, ?_⟩
        intro x dx nx nd ne
        obtain ⟨q1, q2⟩ := made_st (K := K) (st := .cross a b v f) nx nd ne
        refine ⟨x, dx, .cross a b v f, True.intro, ?_, upd_same, rfl, k _ _ q1 q2⟩
        rw [way_fb]
        cases v <;> rfl
    | _ => exact absurd hs (by simp [isShort, mkL])
/-- how long a mark is -/
theorem mk_len (st : Stch) : (mkS st).length = (mkL st).length := by
  cases st <;> rfl
theorem mk_range (st : Stch) : 1 ≤ (mkL st).length ∧ (mkL st).length ≤ 4 ∧ (isShort st = true → (mkL st).length ≤ 2) ∧ (isShort st = false → 3 ≤ (mkL st).length) := by
  cases st <;> simp [mkL, isShort]
theorem sc_stitch : FnScope ["mark", "found"] ["mark"] (defScope s_stitch) := ⟨rfl, rfl, rfl, by decide +kernel, rfl, by decide +kernel, by decide +kernel⟩
theorem ok_stitch (Z : Zt K mg) : Cal P w K mg base "stitch" 4 ["mark"] (spMark K fun _ => True) := by
  obtain ⟨fd, F⟩ := Z.du_stitch
  have c_short_one : Cal P w K mg base "short_one" 3 ["mark"] (spMark K fun st => isShort st = true) := ok_short_one Z
  have c_long_one : Cal P w K mg base "long_one" 3 ["mark"] (spMark K fun st => isShort st = false) := ok_long_one Z
  refine ⟨Z.gl_stitch, F.kp, fd, F.ok (k := 3) sc_stitch (fun vs H Q E h => ?_) (fun cdv A outer s H vs Q E hr h => ?_), FunD.bindsN F fun _ _ _ _ _ _ us hl => match us, hl with | [_], _ => rfl⟩
  · obtain ⟨st, hs, rfl, _⟩ := h
    rfl
  · obtain ⟨st, hs, rfl, k⟩ := h
    refine ⟨_, PSs.nox (pss_cons (ps_set (i := 1) sc_stitch.nd rfl (Or.inl rfl) pe_non)
      (Evl.pss_cut (ps_if (PW.pt (pw_and (pt_val (pe_callB call_isi (by rfl) Z.fr_isinstance (by decide +kernel) (pa_cons (pv 0) (pa_cons (pe_bltn (v := .ty "str") (by rfl) Z.fr_str (by decide +kernel) rfl) pa_nil)))) (pw_and1 (pt_chain op_le op_le pe_int (pe_callB call_len_str (by rfl) Z.fr_len PySem.boot_len (pa_cons (pv 0) pa_nil)) pe_int)))) (pss_one (ps_set (i := 1) sc_stitch.nd rfl (Or.inl rfl) (pe_cal c_short_one (hr.mono (by decide)) (by rfl) (pa_cons (pv 0) pa_nil)))) (pss_one (ps_if (PW.pt (pw_and (pt_val (pe_callB call_isi (by rfl) Z.fr_isinstance (by decide +kernel) (pa_cons (pv 0) (pa_cons (pe_bltn (v := .ty "str") (by rfl) Z.fr_str (by decide +kernel) rfl) pa_nil)))) (pw_and1 (pt_chain op_le op_le pe_int (pe_callB call_len_str (by rfl) Z.fr_len PySem.boot_len (pa_cons (pv 0) pa_nil)) pe_int)))) (pss_one (ps_set (i := 1) sc_stitch.nd rfl (Or.inl rfl) (pe_cal c_long_one (hr.mono (by decide)) (by rfl) (pa_cons (pv 0) pa_nil)))) pss_nil)))
      (pss_cons (ps_if (pt_cmp (pc_isN (pv 1))) (pss_one ps_never) pss_nil)
      (pss_one (ps_ret (pv 1)))))), ?_⟩
    obtain ⟨l1, l2, l3, l4⟩ := mk_range st
    have hl := mk_len st
    refine ⟨fun σ' H' => ∃ v, σ' = [some (.str (mkS st)), some v] ∧ Same H H' ∧ StR K H' v st, ?_, ?_⟩
    · refine ⟨_, rfl, .str (mkS st), .ty "str", .type "str", .type "str", true, rfl, .ty _, .base (.str _), kit_ty (by decide +kernel), true, rfl, iteT ?_⟩
      refine ⟨_, rfl, _, rfl, szl (by omega), 1, _, rfl, rfl, ?_⟩
      refine ⟨true, congrArg V.bl (decide_eq_true (by omega)), iteT ?_⟩
      refine ⟨_, _, rfl, rfl, _, rfl, ?_⟩
      cases e : isShort st with
      | true =>
        have := l3 e
        rw [decide_eq_true (by omega)]
        refine iteT ⟨_, rfl, st, e, rfl, fun H' v s1 r1 => ⟨v, rfl, s1, r1⟩⟩
      | false =>
        have := l4 e
        rw [decide_eq_false (by omega)]
        refine iteF ?_
        refine ⟨_, rfl, .str (mkS st), .ty "str", .type "str", .type "str", true, rfl, .ty _, .base (.str _), kit_ty (by decide +kernel), true, rfl, iteT ?_⟩
        refine ⟨_, rfl, _, rfl, szl (by omega), 3, _, rfl, rfl, ?_⟩
        refine ⟨true, congrArg V.bl (decide_eq_true (by omega)), iteT ?_⟩
        refine ⟨_, _, rfl, rfl, _, rfl, ?_⟩
        rw [decide_eq_true (by omega)]
        exact iteT ⟨_, rfl, st, e, rfl, fun H' v s1 r1 => ⟨v, rfl, s1, r1⟩⟩
    · rintro σ' H' ⟨v, rfl, s1, r1⟩
      refine ⟨_, rfl, _, rfl, ?_⟩
      have hv : decide (v = V.non) = false := by
        obtain ⟨a, dx, rfl, _⟩ := r1
        exact decide_eq_false fun e => nomatch e
      rw [hv]
      exact iteF ⟨_, rfl, k H' v s1 r1⟩
end K34
set_option autoImplicit true
set_option Elab.async false
set_option linter.all false
set_option maxRecDepth 100000
set_option maxHeartbeats 4000000
namespace K34
open PySem PySem.Spec PyProof.Rows L2
variable {P : Program} {w : World} {K : PySem.W.Frag} {mg : Str → Option Value} {base : Heap}

/-! ### comprehensions that give known values -/
theorem lc_vals {α : Type} {R : Hp → V → α → Prop} (mono : ∀ {H H' : Hp} {v : V} {x : α}, Same H H' → R H v x → R H' v x) (keep : α → Bool) (val : α → V) {a D : Addr} {avs : List V} {xs : List α} {H1 : Hp} {vs : List Nat} {g : TG} {tt : TT} {te : TE} {σ : L2.St} {Qd : Hp → Prop}
    (ha : H1 a = some (.lst avs)) (hA : All2 (R H1) avs xs) (hz : xs.length ≤ 100000) (hD : H1 D = none)
    (hs : ∀ v x H5 (Y : V → Hp → Prop) (N : Hp → Prop), x ∈ xs → Same H1 H5 → R H5 v x → (keep x = true → Y (val x) H5) → (keep x = false → N H5) →
      g v (wipe σ vs) H5 fun σ2 H2 => wipe σ2 vs = wipe σ vs ∧ tt σ2 H2 fun b H3 => if b = true then te σ2 H3 Y else N H3)
    (hd : ∀ H5, Same H1 H5 → H5 D = some (.lst ((xs.filter keep).map val)) → Qd H5) :
    ∃ W : Nat → Nat → Hp → Prop, (∃ m, W 0 m (upd H1 D (.lst []))) ∧ ∀ i m H, W i m H →
      ((Itl K a).stop i H ∧ Qd H) ∨ ((Itl K a).go i H ∧ ∃ Nx : Hp → Prop, (∀ H', Nx H' → ∃ m', m' < m ∧ W (i + 1) m' H') ∧ ∀ x H', (Itl K a).yld i H x H' → g x (wipe σ vs) H' fun σ2 H2 => wipe σ2 vs = wipe σ vs ∧ tt σ2 H2 fun b H3 =>
        if b = true then te σ2 H3 fun y H4 => ∃ acc, H4 D = some (.lst acc) ∧ acc.length < sizeLine ∧ Nx (upd H4 D (.lst (acc ++ [y]))) else Nx H3) := by
  refine lc_list (K := K) (a := a) (xs := avs) (fun j H5 => Same H1 H5 ∧ H5 D = some (.lst (((xs.take j).filter keep).map val))) ?_ ?_ ?_ ?_
  · exact ⟨sm_new hD, upd_same⟩
  · rintro j H5 hj ⟨q1, _⟩
    exact SqL.of (q1 _ _ ha)
  · rintro i v H5 hx ⟨q1, q2⟩
    obtain ⟨x, ex, r⟩ := hA.getV hx
    refine hs v x H5 _ _ (List.mem_of_getElem? ex) q1 (mono q1 r) (fun e => ?_) (fun e => ?_)
    · refine ⟨_, q2, ?_, sm_upd q1 hD, ?_⟩
      · rw [List.length_map]
        have h1 := List.length_filter_le keep (xs.take i)
        rw [List.length_take] at h1
        exact szt (by omega)
      · rw [upd_same, take_snoc ex, List.filter_append, List.map_append]
        have e5 : List.filter keep [x] = [x] := by simp [e]
        rw [e5]
        rfl
    · refine ⟨q1, ?_⟩
      rw [take_snoc ex, List.filter_append]
      have e5 : List.filter keep [x] = [] := by simp [e]
      rw [e5, List.append_nil]
      exact q2
  · rintro H5 ⟨q1, q2⟩
    have e5 : xs.take avs.length = xs := List.take_of_length_le (by rw [hA.1]; exact Nat.le_refl _)
    rw [e5] at q2
    exact hd H5 q1 q2

theorem lc_count {α : Type} {R : Hp → V → α → Prop} (mono : ∀ {H H' : Hp} {v : V} {x : α}, Same H H' → R H v x → R H' v x) (keep : α → Bool) {a D : Addr} {avs : List V} {xs : List α} {H1 : Hp} {vs : List Nat} {g : TG} {tt : TT} {te : TE} {σ : L2.St} {Qd : Hp → Prop}
    (ha : H1 a = some (.lst avs)) (hA : All2 (R H1) avs xs) (hz : xs.length ≤ 100000) (hD : H1 D = none)
    (hs : ∀ v x H5 (Y : V → Hp → Prop) (N : Hp → Prop), x ∈ xs → Same H1 H5 → R H5 v x → (keep x = true → ∀ y, Y y H5) → (keep x = false → N H5) →
      g v (wipe σ vs) H5 fun σ2 H2 => wipe σ2 vs = wipe σ vs ∧ tt σ2 H2 fun b H3 => if b = true then te σ2 H3 Y else N H3)
    (hd : ∀ H5 ws, Same H1 H5 → H5 D = some (.lst ws) → ws.length = (xs.filter keep).length → Qd H5) :
    ∃ W : Nat → Nat → Hp → Prop, (∃ m, W 0 m (upd H1 D (.lst []))) ∧ ∀ i m H, W i m H →
      ((Itl K a).stop i H ∧ Qd H) ∨ ((Itl K a).go i H ∧ ∃ Nx : Hp → Prop, (∀ H', Nx H' → ∃ m', m' < m ∧ W (i + 1) m' H') ∧ ∀ x H', (Itl K a).yld i H x H' → g x (wipe σ vs) H' fun σ2 H2 => wipe σ2 vs = wipe σ vs ∧ tt σ2 H2 fun b H3 =>
        if b = true then te σ2 H3 fun y H4 => ∃ acc, H4 D = some (.lst acc) ∧ acc.length < sizeLine ∧ Nx (upd H4 D (.lst (acc ++ [y]))) else Nx H3) := by
  refine lc_list (K := K) (a := a) (xs := avs) (fun j H5 => Same H1 H5 ∧ ∃ ws, H5 D = some (.lst ws) ∧ ws.length = ((xs.take j).filter keep).length) ?_ ?_ ?_ ?_
  · exact ⟨sm_new hD, [], upd_same, rfl⟩
  · rintro j H5 hj ⟨q1, _⟩
    exact SqL.of (q1 _ _ ha)
  · rintro i v H5 hx ⟨q1, ws, q2, q3⟩
    obtain ⟨x, ex, r⟩ := hA.getV hx
    refine hs v x H5 _ _ (List.mem_of_getElem? ex) q1 (mono q1 r) (fun e y => ?_) (fun e => ?_)
    · refine ⟨_, q2, ?_, sm_upd q1 hD, _, upd_same, ?_⟩
      · have h1 := List.length_filter_le keep (xs.take i)
        rw [List.length_take] at h1
        exact szt (by omega)
      · rw [List.length_append, take_snoc ex, List.filter_append, List.length_append, q3]
        have e5 : List.filter keep [x] = [x] := by simp [e]
        rw [e5]
        rfl
    · refine ⟨q1, ws, q2, ?_⟩
      rw [take_snoc ex, List.filter_append]
      have e5 : List.filter keep [x] = [] := by simp [e]
      rw [e5, List.append_nil]
      exact q3
  · rintro H5 ⟨q1, ws, q2, q3⟩
    have e5 : xs.take avs.length = xs := List.take_of_length_le (by rw [hA.1]; exact Nat.le_refl _)
    rw [e5] at q3
    exact hd H5 ws q1 q2 q3

/-! ### rows of stitches in the heap -/
def StL (K : PySem.W.Frag) (H : Hp) (a : Addr) (row : List Stch) : Prop := ∃ vs, H a = some (.lst vs) ∧ All2 (StR K H) vs row
theorem StL.mono {H H' : Hp} {a : Addr} {row : List Stch} (s : Same H H') (h : StL K H a row) : StL K H' a row := let ⟨vs, e, q⟩ := h; ⟨vs, s _ _ e, q.mono fun _ _ => StR.mono s⟩
def fetOf : Stch → List W
  | .fetch k => [k]
  | _ => []
def fetL (row : List Stch) : List W := row.flatMap fetOf
def putL (row : List Stch) : List (Option W) := row.flatMap fun s => s.ends.map fun e => e.2
theorem fet_len (s : Stch) : (fetOf s).length ≤ 1 := by cases s <;> simp [fetOf]
theorem ends_len (s : Stch) : s.ends.length ≤ 1 := by cases s <;> simp [Stch.ends]
theorem ties_len (s : Stch) : s.ties.length ≤ 8 := by
  cases s <;> simp [Stch.ties, Stch.draws] <;> omega
theorem flat_len {α β : Type} {f : α → List β} (h : ∀ a, (f a).length ≤ 1) (l : List α) : (l.flatMap f).length ≤ l.length := by
  induction l with
  | nil => exact Nat.le_refl _
  | cons a l ih =>
    rw [List.flatMap_cons, List.length_append, List.length_cons]
    have := h a
    omega
theorem flat_snoc {α β : Type} {f : α → List β} {l : List α} {i : Nat} {a : α} (h : l[i]? = some a) : (l.take (i + 1)).flatMap f = (l.take i).flatMap f ++ f a := by
  rw [take_snoc h, List.flatMap_append]
  simp
def isFrm : Tie → Bool
  | .frm _ => true
  | _ => false
def isNew : Tie → Bool
  | .new _ => true
  | _ => false
def frmV : Tie → V
  | .frm k => .str k.str
  | _ => .non
theorem fet_ties (s : Stch) : (s.ties.filter isFrm).map frmV = (fetOf s).map fun k => V.str k.str := by
  have key : ∀ l : List (List Nat), (l.map Tie.new).filter isFrm = [] := fun l => List.filter_eq_nil_iff.mpr fun t ht => by
    obtain ⟨ps, _, rfl⟩ := List.mem_map.mp ht
    simp [isFrm]
  cases s with
  | fetch k => rfl
  | slip => rfl
  | off => rfl
  | keep k => rfl
  | _ => simp only [Stch.ties, key]; rfl
theorem new_ties (s : Stch) : (s.ties.filter isNew).length = s.news := by
  have key : ∀ l : List (List Nat), (l.map Tie.new).filter isNew = l.map Tie.new := fun l => List.filter_eq_self.mpr fun t ht => by
    obtain ⟨ps, _, rfl⟩ := List.mem_map.mp ht
    rfl
  cases s with
  | fetch k => rfl
  | slip => rfl
  | off => rfl
  | keep k => rfl
  | _ => simp only [Stch.ties, key, List.length_map]; rfl
/-- a tie's first place -/
theorem tie_word {H : Hp} {v : V} {t : Tie} (h : TieR H v t) : ∃ (a : Addr) (xs : List V) (z : Str), v = .ref a ∧ H a = some (.tup xs) ∧ xs[0]? = some (.str z) ∧ decide (V.str z = V.str "from") = isFrm t ∧ decide (V.str z = V.str "new") = isNew t ∧ (decide (V.str z = V.str "same") = true ↔ ∃ p, t = .same p) := by
  cases t with
  | same p => obtain ⟨a, e, x⟩ := h; exact ⟨a, _, "same", e, x, rfl, (show decide (V.str "same" = V.str "from") = false by decide +kernel), (show decide (V.str "same" = V.str "new") = false by decide +kernel), by simp⟩
  | new ps => obtain ⟨a, pt, sd, lf, e, x, _⟩ := h; exact ⟨a, _, "new", e, x, rfl, (show decide (V.str "new" = V.str "from") = false by decide +kernel), (show decide (V.str "new" = V.str "new") = true by decide +kernel), by rw [show decide (V.str "new" = V.str "same") = false by decide +kernel]; simp⟩
  | frm k => obtain ⟨a, e, x⟩ := h; exact ⟨a, _, "from", e, x, rfl, (show decide (V.str "from" = V.str "from") = true by decide +kernel), (show decide (V.str "from" = V.str "new") = false by decide +kernel), by rw [show decide (V.str "from" = V.str "same") = false by decide +kernel]; simp⟩

/-! ### fetched -/
def spFetched (K : PySem.W.Frag) : Sp := fun vs H Q _ => ∃ (sa : Addr) (row : List Stch), vs = [.ref sa] ∧ StL K H sa row ∧ row.length ≤ 100000 ∧ ∀ H' a, Same H H' → H a = none → H' a = some (.lst ((fetL row).map fun k => V.str k.str)) → Q (.ref a) H'
theorem sc_fetched : FnScope ["stitches", "found", "one", "tie"] ["stitches"] (defScope s_fetched) := ⟨rfl, rfl, rfl, by decide +kernel, rfl, by decide +kernel, by decide +kernel⟩
theorem ok_fetched (Z : Zt K mg) : Cal P w K mg base "fetched" 2 ["stitches"] (spFetched K) := by
  obtain ⟨fd, F⟩ := Z.du_fetched
  have c_ties : ∀ st : Stch, CalM P w K mg base (He.ga K (clsS st)) "ties" 1 ["self"] (spSTies K st) := c_ties Z
  refine ⟨Z.gl_fetched, F.kp, fd, F.ok sc_fetched (fun vs H Q E h => ?_) (fun cdv A outer s H vs Q E hr h => ?_), FunD.bindsN F fun _ _ _ _ _ _ us hl => match us, hl with | [_], _ => rfl⟩
  · obtain ⟨sa, row, rfl, _⟩ := h
    rfl
  · obtain ⟨sa, row, rfl, ⟨svs, hs, hA⟩, hl, k⟩ := h
    refine ⟨_, PSs.nox (pss_cons (ps_set (i := 1) sc_fetched.nd rfl (Or.inl rfl) (pe_lst pa_nil))
      (pss_cons (ps_for PassesOwn.never rfl (pi_list (pv 0)) (pg_name (i := 2) sc_fetched.nd rfl (Or.inl rfl)) (pss_one (ps_expr (pe_bm PySem.F.plainAttrs_list PySem.F.slot_list_extend PySem.F.type_list_extend mt_extend (pv 1) (pa_cons (pe_lc (own := [("tie", 3)]) (by rfl) sc_fetched.nd (pi_list (pe_any fun st : Stch => pe_calm0 (c_ties st) (hr.mono (by decide)) (pv 2))) (blkOk_by (own := [("tie", 3)]) (N := ["stitches", "found", "one", "tie"]) (sc := defScope s_fetched) (by decide +kernel)) (fun _ _ _ _ _ => (pg_name (i := 3) sc_fetched.nd rfl (Or.inl rfl) (Or.inr rfl))) (fun _ _ _ _ _ => (pts_one (pt_cmpR op_eq (pe_ix (ix_tupK (K := K) rfl) (pv 3) pe_int (fun _ _ => rfl)) pe_str (nomark _)))) (fun _ _ _ _ _ => (pe_ix (ix_tupK (K := K) rfl) (pv 3) pe_int (fun _ _ => rfl)))) pa_nil)))))
      (pss_one (ps_ret (pv 1))))), ?_⟩
    refine ⟨Nat.zero_le _, fun l hl2 => ?_⟩
    have hG : Same H (msk [l] (upd H l (.lst []))) := msk_into (sm_new hl2) fun a ha => by rw [List.mem_singleton.mp ha]; exact hl2
    refine ⟨_, rfl, sa, rfl, ⟨_, SqL.of (sm_new hl2 _ _ hs)⟩,
      for_list (K := K) (a := sa) (xs := svs) (fun i σ H' => ∃ b : Option V, σ = [some (.ref sa), some (.ref l), b, none] ∧ Same H (msk [l] H') ∧ H' l = some (.lst ((fetL (row.take i)).map fun k => V.str k.str))) ?_ ?_ ?_ ?_⟩
    · exact ⟨none, rfl, hG, upd_same⟩
    · rintro i σ H' hi ⟨b, rfl, hS, hL⟩
      exact SqL.of ((hS.trans msk_same) _ _ hs)
    · rintro i x σ H' hx ⟨b, rfl, hS, hL⟩
      have hS' := hS.trans (msk_same (H := H'))
      obtain ⟨st, est, r⟩ := hA.getV hx
      have r' := r.mono hS'
      have r2 := r'
      obtain ⟨a, dx, rfl, ha⟩ := r'
      refine ⟨_, rfl, .inl ⟨rfl, _, SqL.of hL⟩, st, _, rfl, a, dx, _, rfl, ha, (fld_no st).2.1, .ref a, rfl, r2, fun H1 ta s1 f1 ⟨tvs, ht, htA⟩ => ?_⟩
      refine ⟨ta, rfl, ⟨_, SqL.of ht⟩, fun Dl hDl => lc_vals (K := K) (R := TieR) (fun s h => TieR.mono s h) isFrm frmV ht htA (Nat.le_trans (ties_len st) (by decide)) hDl ?_ ?_⟩
      · intro v t H5 Y N ht5 s5 rt hy hn
        obtain ⟨a5, xs5, z5, rfl, h5, e5, w1, w2, w3⟩ := tie_word rt
        refine ⟨rfl, _, rfl, a5, xs5, 0, _, rfl, rfl, SqT.of h5, at_of (j := 0) rfl e5, rfl, _, rfl, ?_⟩
        rw [w1]
        cases t with
        | frm k =>
          obtain ⟨a6, e6, h6⟩ := rt
          cases e6
          exact iteT ⟨_, rfl, a5, _, 1, _, rfl, rfl, SqT.of h6, rfl, hy rfl⟩
        | same p => exact iteF (hn rfl)
        | new ps => exact iteF (hn rfl)
      · intro H5 s5 h5
        have hL5 := s5 _ _ (s1 _ _ hL)
        rw [fet_ties] at h5
        refine ⟨l, Dl, _, _, rfl, rfl, hL5, h5, szl ?_, _, rfl, ?_, ?_⟩
        · rw [List.length_map, List.length_map]
          have h6 := flat_len fet_len (row.take i)
          have h7 := fet_len st
          rw [List.length_take] at h6
          have h8 := (List.getElem?_eq_some_iff.mp est).1
          unfold fetL
          omega
        · rw [msk_upd (by simp)]
          exact hS.trans (msk_mono (s1.trans s5))
        · rw [upd_same]
          unfold fetL
          rw [flat_snoc est, List.map_append]
    · rintro σ H' ⟨b, rfl, hS, hL⟩
      have e5 : row.take svs.length = row := List.take_of_length_le (by rw [hA.1]; exact Nat.le_refl _)
      rw [e5] at hL
      exact ⟨_, rfl, k H' l (hS.trans msk_same) hl2 hL⟩

/-! ### put_away -/
def spPutAway (K : PySem.W.Frag) : Sp := fun vs H Q _ => ∃ (sa : Addr) (row : List Stch), vs = [.ref sa] ∧ StL K H sa row ∧ row.length ≤ 100000 ∧ ∀ H' a, Same H H' → H a = none → H' a = some (.lst ((putL row).map fun k => V.str (wordS k))) → Q (.ref a) H'
theorem put_len (row : List Stch) : (putL row).length ≤ row.length := flat_len (fun s => by rw [List.length_map]; exact ends_len s) row
theorem sc_put_away : FnScope ["stitches", "found", "one", "at", "word"] ["stitches"] (defScope s_put_away) := ⟨rfl, rfl, rfl, by decide +kernel, rfl, by decide +kernel, by decide +kernel⟩
theorem ok_put_away (Z : Zt K mg) : Cal P w K mg base "put_away" 2 ["stitches"] (spPutAway K) := by
  obtain ⟨fd, F⟩ := Z.du_put_away
  have c_ends : ∀ st : Stch, CalM P w K mg base (He.ga K (clsS st)) "ends" 1 ["self"] (spSEnds K st) := c_ends Z
  refine ⟨Z.gl_put_away, F.kp, fd, F.ok sc_put_away (fun vs H Q E h => ?_) (fun cdv A outer s H vs Q E hr h => ?_), FunD.bindsN F fun _ _ _ _ _ _ us hl => match us, hl with | [_], _ => rfl⟩
  · obtain ⟨sa, row, rfl, _⟩ := h
    rfl
  · obtain ⟨sa, row, rfl, ⟨svs, hs, hA⟩, hl, k⟩ := h
    refine ⟨_, PSs.nox (pss_cons (ps_set (i := 1) sc_put_away.nd rfl (Or.inl rfl) (pe_lst pa_nil))
      (pss_cons (ps_for PassesOwn.never rfl (pi_list (pv 0)) (pg_name (i := 2) sc_put_away.nd rfl (Or.inl rfl)) (pss_one (ps_expr (pe_bm PySem.F.plainAttrs_list PySem.F.slot_list_extend PySem.F.type_list_extend mt_extend (pv 1) (pa_cons (pe_lc (own := [("at", 3), ("word", 4)]) (by rfl) sc_put_away.nd (pi_list (pe_any fun st : Stch => pe_calm0 (c_ends st) (hr.mono (by decide)) (pv 2))) (blkOk_by (own := [("at", 3), ("word", 4)]) (N := ["stitches", "found", "one", "at", "word"]) (sc := defScope s_put_away) (by decide +kernel)) (fun _ _ _ _ _ => (pg_tupK (K := K) (n := 2) rfl rfl (pgs_cons (pg_name (i := 3) sc_put_away.nd rfl (Or.inl rfl) (Or.inr rfl)) (pgs_cons (pg_name (i := 4) sc_put_away.nd rfl (Or.inl rfl) (Or.inr rfl)) pgs_nil)) rfl rfl)) (fun _ _ _ _ _ => pts_nil) (fun _ _ _ _ _ => (pv 4))) pa_nil)))))
      (pss_one (ps_ret (pv 1))))), ?_⟩
    refine ⟨Nat.zero_le _, fun l hl2 => ?_⟩
    have hG : Same H (msk [l] (upd H l (.lst []))) := msk_into (sm_new hl2) fun a ha => by rw [List.mem_singleton.mp ha]; exact hl2
    refine ⟨_, rfl, sa, rfl, ⟨_, SqL.of (sm_new hl2 _ _ hs)⟩,
      for_list (K := K) (a := sa) (xs := svs) (fun i σ H' => ∃ b : Option V, σ = [some (.ref sa), some (.ref l), b, none, none] ∧ Same H (msk [l] H') ∧ H' l = some (.lst ((putL (row.take i)).map fun k => V.str (wordS k)))) ?_ ?_ ?_ ?_⟩
    · exact ⟨none, rfl, hG, upd_same⟩
    · rintro i σ H' hi ⟨b, rfl, hS, hL⟩
      exact SqL.of ((hS.trans msk_same) _ _ hs)
    · rintro i x σ H' hx ⟨b, rfl, hS, hL⟩
      have hS' := hS.trans (msk_same (H := H'))
      obtain ⟨st, est, r⟩ := hA.getV hx
      have r' := r.mono hS'
      have r2 := r'
      obtain ⟨a, dx, rfl, ha⟩ := r'
      refine ⟨_, rfl, .inl ⟨rfl, _, SqL.of hL⟩, st, _, rfl, a, dx, _, rfl, ha, (fld_no st).2.2, .ref a, rfl, r2, fun H1 ta s1 f1 ⟨tvs, ht, htA⟩ => ?_⟩
      refine ⟨ta, rfl, ⟨_, SqL.of ht⟩, fun Dl hDl => lc_vals (K := K) (R := EndR) (fun s ⟨t, e, h⟩ => ⟨t, e, s _ _ h⟩) (fun _ => true) (fun e => V.str (wordS e.2)) ht htA (Nat.le_trans (ends_len st) (by decide)) hDl ?_ ?_⟩
      · intro v t H5 Y N ht5 s5 rt hy hn
        obtain ⟨a5, rfl, h5⟩ := rt
        exact ⟨a5, _, rfl, SqT.of h5, rfl, _, _, rfl, _, _, rfl, rfl, rfl, _, rfl, hy rfl⟩
      · intro H5 s5 h5
        have hL5 := s5 _ _ (s1 _ _ hL)
        have e6 : st.ends.filter (fun _ => true) = st.ends := List.filter_eq_self.mpr fun _ _ => rfl
        rw [e6] at h5
        refine ⟨l, Dl, _, _, rfl, rfl, hL5, h5, szl ?_, _, rfl, ?_, ?_⟩
        · rw [List.length_map, List.length_map]
          have h6 := put_len (row.take i)
          have h7 := ends_len st
          rw [List.length_take] at h6
          have h8 := (List.getElem?_eq_some_iff.mp est).1
          omega
        · rw [msk_upd (by simp)]
          exact hS.trans (msk_mono (s1.trans s5))
        · rw [upd_same]
          unfold putL
          rw [flat_snoc est, List.map_append, List.map_map]
          rfl
    · rintro σ H' ⟨b, rfl, hS, hL⟩
      have e5 : row.take svs.length = row := List.take_of_length_le (by rw [hA.1]; exact Nat.le_refl _)
      rw [e5] at hL
      exact ⟨_, rfl, k H' l (hS.trans msk_same) hl2 hL⟩

/-! ### many_new -/
def spManyNew (K : PySem.W.Frag) : Sp := fun vs H Q _ => ∃ (sa : Addr) (row : List Stch), vs = [.ref sa] ∧ StL K H sa row ∧ row.length ≤ 100000 ∧ ∀ H', Same H H' → Q (.int (manyIn row : Int)) H'
theorem sumS_snoc {f : Stch → Nat} {row : List Stch} {i : Nat} {s : Stch} (h : row[i]? = some s) : sumS f (row.take (i + 1)) = sumS f (row.take i) + f s := by
  rw [take_snoc h, sumS_append, sumS_cons, sumS_nil, Nat.add_zero]
theorem sc_many_new : FnScope ["stitches", "found", "one", "tie"] ["stitches"] (defScope s_many_new) := ⟨rfl, rfl, rfl, by decide +kernel, rfl, by decide +kernel, by decide +kernel⟩
theorem ok_many_new (Z : Zt K mg) : Cal P w K mg base "many_new" 2 ["stitches"] (spManyNew K) := by
  obtain ⟨fd, F⟩ := Z.du_many_new
  have c_ties : ∀ st : Stch, CalM P w K mg base (He.ga K (clsS st)) "ties" 1 ["self"] (spSTies K st) := c_ties Z
  refine ⟨Z.gl_many_new, F.kp, fd, F.ok sc_many_new (fun vs H Q E h => ?_) (fun cdv A outer s H vs Q E hr h => ?_), FunD.bindsN F fun _ _ _ _ _ _ us hl => match us, hl with | [_], _ => rfl⟩
  · obtain ⟨sa, row, rfl, _⟩ := h
    rfl
  · obtain ⟨sa, row, rfl, ⟨svs, hs, hA⟩, hl, k⟩ := h
    refine ⟨_, PSs.nox (pss_cons (ps_set (i := 1) sc_many_new.nd rfl (Or.inl rfl) pe_int)
      (pss_cons (ps_for PassesOwn.never rfl (pi_list (pv 0)) (pg_name (i := 2) sc_many_new.nd rfl (Or.inl rfl)) (pss_one (ps_aug (i := 1) sc_many_new.nd rfl (Or.inl rfl) (pe_callB call_len_seq (by rfl) Z.fr_len PySem.boot_len (pa_cons (pe_lc (own := [("tie", 3)]) (by rfl) sc_many_new.nd (pi_list (pe_any fun st : Stch => pe_calm0 (c_ties st) (hr.mono (by decide)) (pv 2))) (blkOk_by (own := [("tie", 3)]) (N := ["stitches", "found", "one", "tie"]) (sc := defScope s_many_new) (by decide +kernel)) (fun _ _ _ _ _ => (pg_name (i := 3) sc_many_new.nd rfl (Or.inl rfl) (Or.inr rfl))) (fun _ _ _ _ _ => (pts_one (pt_cmpR op_eq (pe_ix (ix_tupK (K := K) rfl) (pv 3) pe_int (fun _ _ => rfl)) pe_str (nomark _)))) (fun _ _ _ _ _ => (pv 3))) pa_nil)) ip_add)))
      (pss_one (ps_ret (pv 1))))), ?_⟩
    refine ⟨_, rfl, sa, rfl, ⟨_, SqL.of hs⟩,
      for_list (K := K) (a := sa) (xs := svs) (fun i σ H' => ∃ b : Option V, σ = [some (.ref sa), some (.int (manyIn (row.take i) : Int)), b, none] ∧ Same H H') ?_ ?_ ?_ ?_⟩
    · exact ⟨none, rfl, Same.refl _⟩
    · rintro i σ H' hi ⟨b, rfl, hS⟩
      exact SqL.of (hS _ _ hs)
    · rintro i x σ H' hx ⟨b, rfl, hS⟩
      obtain ⟨st, est, r⟩ := hA.getV hx
      have r' := r.mono hS
      have r2 := r'
      obtain ⟨a, dx, rfl, ha⟩ := r'
      refine ⟨_, rfl, st, _, rfl, a, dx, _, rfl, ha, (fld_no st).2.1, .ref a, rfl, r2, fun H1 ta s1 f1 ⟨tvs, ht, htA⟩ => ?_⟩
      refine ⟨ta, rfl, ⟨_, SqL.of ht⟩, fun Dl hDl => lc_count (K := K) (R := TieR) (fun s h => TieR.mono s h) isNew ht htA (Nat.le_trans (ties_len st) (by decide)) hDl ?_ ?_⟩
      · intro v t H5 Y N ht5 s5 rt hy hn
        obtain ⟨a5, xs5, z5, rfl, h5, e5, w1, w2, w3⟩ := tie_word rt
        refine ⟨rfl, _, rfl, a5, xs5, 0, _, rfl, rfl, SqT.of h5, at_of (j := 0) rfl e5, rfl, _, rfl, ?_⟩
        rw [w2]
        cases hb : isNew t with
        | true => exact iteT ⟨_, rfl, hy hb _⟩
        | false => exact iteF (hn hb)
      · intro H5 ws s5 h5 hw
        refine ⟨Dl, _, rfl, .inl (SqL.of h5), _, _, rfl, rfl, some (.ref a), ?_, (hS.trans s1).trans s5⟩
        have e6 : ws.length = st.news := by rw [hw]; exact new_ties st
        rw [e6]
        have e7 : (manyIn (row.take (i + 1)) : Int) = (manyIn (row.take i) : Int) + (st.news : Int) := by
          unfold manyIn
          rw [sumS_snoc est]
          omega
        rw [e7]
        rfl
    · rintro σ H' ⟨b, rfl, hS⟩
      have e5 : row.take svs.length = row := List.take_of_length_le (by rw [hA.1]; exact Nat.le_refl _)
      rw [e5]
      exact ⟨_, rfl, k H' hS⟩
end K34
set_option autoImplicit true
set_option Elab.async false
set_option linter.all false
set_option maxRecDepth 100000
set_option maxHeartbeats 4000000
namespace K34
open PySem PySem.Spec PyProof.Rows L2
variable {P : Program} {w : World} {K : PySem.W.Frag} {mg : Str → Option Value} {base : Heap}

/-! ### dicts whose keys are words -/
def keyW (o : Option W) : Key := .inr (wordS o)
theorem wordS_inj {o u : Option W} (h : wordS o = wordS u) : o = u := by
  revert h
  cases o with
  | none => cases u with
    | none => intro _; rfl
    | some k => cases k <;> intro h <;> exact absurd h (by decide +kernel)
  | some j => cases u with
    | none => cases j <;> intro h <;> exact absurd h (by decide +kernel)
    | some k => cases j <;> cases k <;> intro h <;> first | rfl | exact absurd h (by decide +kernel)
theorem keyW_inj {o u : Option W} (h : keyW o = keyW u) : o = u := wordS_inj (Sum.inr.inj h)
def dcw (ks : List (Option W)) (f : Option W → V) : List (Key × V) := ks.map fun o => (keyW o, f o)
def insO (ks : List (Option W)) (o : Option W) : List (Option W) := if o ∈ ks then ks else ks ++ [o]
theorem mem_insO {ks : List (Option W)} {o u : Option W} : u ∈ insO ks o ↔ u ∈ ks ∨ u = o := by
  unfold insO
  by_cases h : o ∈ ks
  · rw [if_pos h]
    exact ⟨.inl, fun q => q.elim id fun e => by rw [e]; exact h⟩
  · rw [if_neg h, List.mem_append, List.mem_singleton]
theorem nodup_insO {ks : List (Option W)} {o : Option W} (h : ks.Nodup) : (insO ks o).Nodup := by
  unfold insO
  by_cases q : o ∈ ks
  · rw [if_pos q]; exact h
  · rw [if_neg q]
    refine List.nodup_append.mpr ⟨h, by simp, fun a ha b hb e => ?_⟩
    rw [List.mem_singleton] at hb
    exact q (by rw [← hb, ← e]; exact ha)
theorem lenO (ks : List (Option W)) : ks.length = ks.count none + sumW fun k => ks.count (some k) := by
  induction ks with
  | nil => rfl
  | cons o ks ih =>
    unfold sumW at ih ⊢
    rw [List.length_cons, ih]
    rcases o with _ | k
    · simp; omega
    · cases k <;> simp <;> omega
theorem len5 {ks : List (Option W)} (h : ks.Nodup) : ks.length ≤ 5 := by
  have c := List.nodup_iff_count.mp h
  have e := lenO ks
  unfold sumW at e
  simp only at e
  have h0 := c none
  have h1 := c (some .w)
  have h2 := c (some .x)
  have h3 := c (some .y)
  have h4 := c (some .z)
  omega
section
variable {ks : List (Option W)} {f g : Option W → V} {o : Option W} {v : V}
theorem dcw_val : ∀ {ks : List (Option W)}, valV (dcw ks f) (keyW o) = if o ∈ ks then some (f o) else none
  | [] => rfl
  | m :: r => by
    show valV ((keyW m, f m) :: dcw r f) (keyW o) = _
    by_cases e : m = o
    · subst e
      rw [valV_pos rfl, if_pos List.mem_cons_self]
    · rw [valV_neg fun q => e (keyW_inj q), dcw_val]
      have : o ∈ m :: r ↔ o ∈ r := by rw [List.mem_cons]; exact ⟨fun h => h.resolve_left fun q => e q.symm, .inr⟩
      by_cases q : o ∈ r
      · rw [if_pos q, if_pos (this.mpr q)]
      · rw [if_neg q, if_neg fun z => q (this.mp z)]
theorem dcw_in (h : o ∈ ks) : valV (dcw ks f) (keyW o) = some (f o) := by rw [dcw_val, if_pos h]
theorem dcw_not (h : o ∉ ks) : valV (dcw ks f) (keyW o) = none := by rw [dcw_val, if_neg h]
theorem dcw_congr (h : ∀ m ∈ ks, f m = g m) : dcw ks f = dcw ks g := List.map_congr_left fun m hm => by rw [h m hm]
theorem dcw_put : putK (dcw ks f) (keyW o) v = dcw (insO ks o) (fun m => if m = o then v else f m) := by
  unfold insO
  by_cases h : o ∈ ks
  · rw [if_pos h]
    unfold putK
    rw [if_pos (by rw [valV_any, dcw_in h]; rfl)]
    unfold dcw
    rw [List.map_map]
    refine List.map_congr_left fun m hm => ?_
    by_cases e : m = o
    · subst e; simp
    · have : ¬ keyW m = keyW o := fun q => e (keyW_inj q)
      simp [e, this]
  · rw [if_neg h, putK_new v (dcw_not h)]
    unfold dcw
    rw [List.map_append]
    congr 1
    · refine List.map_congr_left fun m hm => ?_
      have q : ¬ m = o := fun e => h (by rw [← e]; exact hm)
      simp only [if_neg q]
    · simp
theorem dcw_len : (dcw ks f).length = ks.length := by simp [dcw]
theorem dcw_drop : dropK (dcw ks f) (keyW o) = dcw (ks.filter fun m => decide (m ≠ o)) f := by
  unfold dropK dcw
  rw [List.filter_map]
  congr 1
  refine List.filter_congr fun m _ => ?_
  simp only [Function.comp_def]
  by_cases e : m = o
  · subst e; simp
  · have : ¬ keyW m = keyW o := fun q => e (keyW_inj q)
    simp [e, this]
end

/-! ### the needles in the heap -/
def ndF (back : Bool) (ra hd ga ma la : Addr) : List (Str × V) := [("flat", .bl true), ("back", .bl back), ("right", .ref ra), ("held", .ref hd), ("gone", .ref ga), ("made", .ref ma), ("left", .ref la)]
section
variable {b c : Bool} {ra hd ga ma la q : Addr}
theorem putF_eq {f : Str} {v u : V} {r : List (Str × V)} : putF f v ((f, u) :: r) = (f, v) :: r := if_pos rfl
theorem pF_back : putF "back" (.bl c) (ndF b ra hd ga ma la) = ndF c ra hd ga ma la := by
  unfold ndF; rw [putF_ne (by decide +kernel), putF_eq]
theorem pF_right : putF "right" (.ref q) (ndF b ra hd ga ma la) = ndF b q hd ga ma la := by
  unfold ndF; rw [putF_ne (by decide +kernel), putF_ne (by decide +kernel), putF_eq]
theorem pF_left : putF "left" (.ref q) (ndF b ra hd ga ma la) = ndF b ra hd ga ma q := by
  unfold ndF; rw [putF_ne (by decide +kernel), putF_ne (by decide +kernel), putF_ne (by decide +kernel), putF_ne (by decide +kernel), putF_ne (by decide +kernel), putF_ne (by decide +kernel), putF_eq]
end
/-- what the held dict holds -/
def HeldC (G : Hp) (o : HO) (held : W → List Name) : Prop := ∃ ks f, o = .dK (dcw ks f) ∧ (ks.Nodup ∧ none ∉ ks) ∧ ∀ k : W, (some k ∈ ks → ∃ b, f (some k) = .ref b ∧ NmsL G b (held k)) ∧ (some k ∉ ks → held k = [])
theorem HeldC.mono {G G' : Hp} {o : HO} {h : W → List Name} (s : Same G G') (q : HeldC G o h) : HeldC G' o h := by
  obtain ⟨ks, f, e, n, q⟩ := q
  exact ⟨ks, f, e, n, fun k => ⟨fun hk => let ⟨b, e, x⟩ := (q k).1 hk; ⟨b, e, x.mono s⟩, (q k).2⟩⟩
structure NdA where
  dx : Addr
  ra : Addr
  hd : Addr
  ga : Addr
  ma : Addr
  la : Addr
def NdA.own (A : NdA) (p : Addr) : List Addr := [p, A.ra, A.hd, A.ga, A.ma]
/-- the needles at p -/
structure NdR (K : PySem.W.Frag) (H : Hp) (p : Addr) (A : NdA) (nd : Nd) : Prop where
  ne : (A.own p).Nodup
  ob : H p = some (.ins (He.ga K "Needles") A.dx (ndF nd.back A.ra A.hd A.ga A.ma A.la))
  rt : ∃ vs, H A.ra = some (.lst vs) ∧ All2 (NmR (msk (A.own p) H)) vs nd.right
  lf : NmsL (msk (A.own p) H) A.la nd.left
  hd : ∃ o, H A.hd = some o ∧ HeldC (msk (A.own p) H) o nd.held
  gn : ∃ vs, H A.ga = some (.lst vs) ∧ All2 (NmR (msk (A.own p) H)) vs nd.gone
  md : ∃ vs, H A.ma = some (.lst vs) ∧ All2 (RowR (msk (A.own p) H)) vs nd.made
theorem NdR.grow {H H' : Hp} {p : Addr} {A : NdA} {nd : Nd} (s : Same H H') (h : NdR K H p A nd) : NdR K H' p A nd := by
  have s' := msk_mono (M := A.own p) s
  obtain ⟨v1, e1, q1⟩ := h.rt
  obtain ⟨v2, e2, q2⟩ := h.gn
  obtain ⟨v3, e3, q3⟩ := h.md
  obtain ⟨o, e4, q4⟩ := h.hd
  exact ⟨h.ne, s _ _ h.ob, ⟨v1, s _ _ e1, q1.mono fun _ _ => NmR.mono s'⟩, h.lf.mono s', ⟨o, s _ _ e4, q4.mono s'⟩, ⟨v2, s _ _ e2, q2.mono fun _ _ => NmR.mono s'⟩, ⟨v3, s _ _ e3, q3.mono fun _ _ => RowR.mono s'⟩⟩

/-! ### facing, named, seen, exchange -/
def insN (K : PySem.W.Frag) (dx : Addr) (b : Bool) (ra hd ga ma la : Addr) : HO := .ins (He.ga K "Needles") dx (ndF b ra hd ga ma la)
def spFacing (K : PySem.W.Frag) : Sp := fun vs H Q _ => ∃ (p sa dx ra hd ga ma la : Addr) (b : Bool) (xs : List V), vs = [.ref p, .ref sa] ∧ H p = some (insN K dx b ra hd ga ma la) ∧ H sa = some (.lst xs) ∧ ∀ q, H q = none → Q (.ref q) (upd H q (.lst (fac b xs)))
theorem sc_Needles_facing : FnScope ["self", "some"] ["self", "some"] (defScope s_Needles_facing) := ⟨rfl, rfl, rfl, by decide +kernel, rfl, by decide +kernel, by decide +kernel⟩
theorem ok_facing (Z : Zt K mg) : CalM P w K mg base (He.ga K "Needles") "facing" 1 ["self", "some"] (spFacing K) := by
  obtain ⟨fd, F⟩ := Z.du_Needles_facing
  refine ⟨Z.cl_Needles, Z.me_Needles_facing, fd, F.ok sc_Needles_facing (fun vs H Q E h => ?_) (fun cdv A outer s H vs Q E hr h => ?_), FunD.bindsN F fun _ _ _ _ _ _ us hl => match us, hl with | [_, _], _ => rfl⟩
  · obtain ⟨_, _, _, _, _, _, _, _, _, _, rfl, _⟩ := h
    rfl
  · obtain ⟨p, sa, dx, ra, hd, ga, ma, la, b, xs, rfl, hp, hs, k⟩ := h
    refine ⟨_, PSs.nox (pss_cons (ps_if (pt_val (pe_fld (pv 0) rfl)) (pss_one (ps_ret (pe_lstRev (by rfl) (by rfl) Z.fr_list (by rfl) Z.fr_reversed (pv 1)))) pss_nil)
      (pss_one (ps_ret (pe_callTy call_list_of (by rfl) Z.fr_list (by decide +kernel) (pa_cons (pv 1) pa_nil))))), ?_⟩
    cases b with
    | false => exact ⟨_, rfl, p, _, dx, _, _, rfl, hp, Z.cl_Needles, Z.na_Needles_back, rfl, _, rfl, iteF ⟨_, rfl, sa, xs, rfl, .inl (SqL.of hs), fun q hq => k q hq⟩⟩
    | true => exact ⟨_, rfl, p, _, dx, _, _, rfl, hp, Z.cl_Needles, Z.na_Needles_back, rfl, _, rfl, iteT ⟨_, rfl, sa, xs, rfl, SqL.of hs, fun q hq => k q hq⟩⟩
def spNamed (K : PySem.W.Frag) : Sp := fun vs H Q _ => ∃ (p dx ra hd ga ma la : Addr) (b : Bool) (ms : List V) (i many : Nat), vs = [.ref p, .int (i : Int), .int (many : Int)] ∧ i < many ∧ H p = some (insN K dx b ra hd ga ma la) ∧ H ma = some (.lst ms) ∧
  ∀ q, H q = none → Q (.ref q) (upd H q (.tup [.int ((nmd ms.length b many i).1 : Int), .int ((nmd ms.length b many i).2 : Int)]))
theorem sc_Needles_named : FnScope ["self", "behind", "many"] ["self", "behind", "many"] (defScope s_Needles_named) := ⟨rfl, rfl, rfl, by decide +kernel, rfl, by decide +kernel, by decide +kernel⟩
theorem ok_named (Z : Zt K mg) : CalM P w K mg base (He.ga K "Needles") "named" 1 ["self", "behind", "many"] (spNamed K) := by
  obtain ⟨fd, F⟩ := Z.du_Needles_named
  refine ⟨Z.cl_Needles, Z.me_Needles_named, fd, F.ok sc_Needles_named (fun vs H Q E h => ?_) (fun cdv A outer s H vs Q E hr h => ?_), FunD.bindsN F fun _ _ _ _ _ _ us hl => match us, hl with | [_, _, _], _ => rfl⟩
  · obtain ⟨_, _, _, _, _, _, _, _, _, _, _, rfl, _⟩ := h
    rfl
  · obtain ⟨p, dx, ra, hd, ga, ma, la, b, ms, i, many, rfl, hi, hp, hm, k⟩ := h
    refine ⟨_, PSs.nox (pss_cons (ps_if (pt_val (pe_fld (pv 0) rfl)) (pss_one (ps_ret (pe_tup (pa_cons (pe_callB call_len_seq (by rfl) Z.fr_len PySem.boot_len (pa_cons (pe_fld (pv 0) rfl) pa_nil)) (pa_cons (pe_op op_sub (pe_op op_sub (pv 2) pe_int) (pv 1)) pa_nil))))) pss_nil)
      (pss_one (ps_ret (pe_tup (pa_cons (pe_callB call_len_seq (by rfl) Z.fr_len PySem.boot_len (pa_cons (pe_fld (pv 0) rfl) pa_nil)) (pa_cons (pv 1) pa_nil)))))), ?_⟩
    cases b with
    | false => exact ⟨_, rfl, p, _, dx, _, _, rfl, hp, Z.cl_Needles, Z.na_Needles_back, rfl, _, rfl, iteF ⟨_, rfl, p, _, dx, _, _, rfl, hp, Z.cl_Needles, Z.na_Needles_made, rfl, ma, _, rfl, .inl (SqL.of hm), _, rfl, (by show 2 ≤ sizeLine; decide), fun q hq => k q hq⟩⟩
    | true =>
      refine ⟨_, rfl, p, _, dx, _, _, rfl, hp, Z.cl_Needles, Z.na_Needles_back, rfl, _, rfl, iteT ⟨_, rfl, p, _, dx, _, _, rfl, hp, Z.cl_Needles, Z.na_Needles_made, rfl, ma, _, rfl, .inl (SqL.of hm), _, rfl, _, _, rfl, rfl, _, rfl, _, _, rfl, rfl, (by show 2 ≤ sizeLine; decide), fun q hq => ?_⟩⟩
      have e : (((nmd ms.length true many i).2 : Nat) : Int) = (many : Int) - 1 - (i : Int) := by
        show ((many - 1 - i : Nat) : Int) = _
        omega
      have := k q hq
      rw [e] at this
      exact this
theorem lc_tupv {α : Type} (inj val : α → V) {a D : Addr} {xs : List α} {H1 : Hp} {vs : List Nat} {g : TG} {tt : TT} {te : TE} {σ : L2.St} {Qd : Hp → Prop}
    (ha : H1 a = some (.tup (xs.map inj))) (hz : xs.length ≤ 100000) (hD : H1 D = none)
    (hs : ∀ x H5 (Y : V → Hp → Prop) (N : Hp → Prop), x ∈ xs → Same H1 H5 → Y (val x) H5 →
      g (inj x) (wipe σ vs) H5 fun σ2 H2 => wipe σ2 vs = wipe σ vs ∧ tt σ2 H2 fun b H3 => if b = true then te σ2 H3 Y else N H3)
    (hd : ∀ H5, Same H1 H5 → H5 D = some (.lst (xs.map val)) → Qd H5) :
    ∃ W : Nat → Nat → Hp → Prop, (∃ m, W 0 m (upd H1 D (.lst []))) ∧ ∀ i m H, W i m H →
      ((Itt K a).stop i H ∧ Qd H) ∨ ((Itt K a).go i H ∧ ∃ Nx : Hp → Prop, (∀ H', Nx H' → ∃ m', m' < m ∧ W (i + 1) m' H') ∧ ∀ x H', (Itt K a).yld i H x H' → g x (wipe σ vs) H' fun σ2 H2 => wipe σ2 vs = wipe σ vs ∧ tt σ2 H2 fun b H3 =>
        if b = true then te σ2 H3 fun y H4 => ∃ acc, H4 D = some (.lst acc) ∧ acc.length < sizeLine ∧ Nx (upd H4 D (.lst (acc ++ [y]))) else Nx H3) := by
  refine lc_tup (K := K) (a := a) (xs := xs.map inj) (fun j H5 => Same H1 H5 ∧ H5 D = some (.lst ((xs.take j).map val))) ?_ ?_ ?_ ?_
  · exact ⟨sm_new hD, upd_same⟩
  · rintro j H5 hj ⟨q1, _⟩
    exact SqT.of (q1 _ _ ha)
  · rintro i v H5 hx ⟨q1, q2⟩
    rw [List.getElem?_map] at hx
    cases ex : xs[i]? with
    | none => rw [ex] at hx; cases hx
    | some x =>
      rw [ex] at hx
      cases hx
      refine hs x H5 _ _ (List.mem_of_getElem? ex) q1 ⟨_, q2, ?_, sm_upd q1 hD, ?_⟩
      · rw [List.length_map, List.length_take]
        exact szt (by omega)
      · rw [upd_same, take_snoc ex, List.map_append]
        rfl
  · rintro H5 ⟨q1, q2⟩
    have e5 : xs.take (xs.map inj).length = xs := List.take_of_length_le (by rw [List.length_map]; exact Nat.le_refl _)
    rw [e5] at q2
    exact hd H5 q1 q2
/-- the values of some places -/
def atP (xs : List V) (ps : List Nat) : List V := ps.map fun p => xs.getD p .non
def spSeen (K : PySem.W.Frag) : Sp := fun vs H Q _ => ∃ (p dx ra hd ga ma la ta : Addr) (b : Bool) (v : V) (ps : List Nat) (xs : List V), vs = [.ref p, v, .ref ta] ∧ H p = some (insN K dx b ra hd ga ma la) ∧ TieR H v (.new ps) ∧ ps.length ≤ 100 ∧ H ta = some (.lst xs) ∧ (∀ q, q ∈ ps → q < xs.length) ∧
  ∀ H' (t pt : Addr) (s l : Int), Same H H' → H t = none → H pt = none → H' t = some (.tup [.ref pt, .int s, .int l]) → H' pt = some (.tup (fac b (atP xs ps))) → Q (.ref t) H'
theorem sc_Needles_seen : FnScope ["self", "tie", "taken", "parents", "p"] ["self", "tie", "taken"] (defScope s_Needles_seen) := ⟨rfl, rfl, rfl, by decide +kernel, rfl, by decide +kernel, by decide +kernel⟩
theorem ok_seen (Z : Zt K mg) : CalM P w K mg base (He.ga K "Needles") "seen" 2 ["self", "tie", "taken"] (spSeen K) := by
  obtain ⟨fd, F⟩ := Z.du_Needles_seen
  have c_facing := ok_facing (P := P) (w := w) (base := base) Z
  refine ⟨Z.cl_Needles, Z.me_Needles_seen, fd, F.ok sc_Needles_seen (fun vs H Q E h => ?_) (fun cdv A outer s H vs Q E hr h => ?_), FunD.bindsN F fun _ _ _ _ _ _ us hl => match us, hl with | [_, _, _], _ => rfl⟩
  · obtain ⟨_, _, _, _, _, _, _, _, _, _, _, _, rfl, _⟩ := h
    rfl
  · obtain ⟨p, dx, ra, hd, ga, ma, la, ta, b, v, ps, xs, rfl, hp, ⟨tt, pt, sd, lf, rfl, ht, hpt⟩, hl, hta, hin, k⟩ := h
    refine ⟨_, PSs.nox (pss_cons (ps_set (i := 3) sc_Needles_seen.nd rfl (Or.inl rfl) (pe_callTy call_tuple_of (by rfl) Z.fr_tuple (by decide +kernel) (pa_cons (pe_calm c_facing (hr.mono (by decide)) (pv 0) (pa_cons (pe_lc (own := [("p", 4)]) (by rfl) sc_Needles_seen.nd (pi_tup (pe_ix ix_tup (pv 1) pe_int (fun _ _ => rfl))) (blkOk_by (own := [("p", 4)]) (N := ["self", "tie", "taken", "parents", "p"]) (sc := defScope s_Needles_seen) (by decide +kernel)) (fun _ _ _ _ _ => (pg_name (i := 4) sc_Needles_seen.nd rfl (Or.inl rfl) (Or.inr rfl))) (fun _ _ _ _ _ => pts_nil) (fun _ _ _ _ _ => (pe_ix (ix_listK (K := K) rfl) (pv 2) (pv 4) (fun _ _ => rfl)))) pa_nil)) pa_nil)))
      (pss_cons (ps_if (pt_val (pe_fld (pv 0) rfl)) (pss_one (ps_ret (pe_tup (pa_cons (pv 3) (pa_cons (pe_op op_sub pe_int (pe_ix ix_tup (pv 1) pe_int (fun _ _ => rfl))) (pa_cons (pe_op op_sub pe_int (pe_ix ix_tup (pv 1) pe_int (fun _ _ => rfl))) pa_nil)))))) pss_nil)
      (pss_one (ps_ret (pe_tup (pa_cons (pv 3) (pa_cons (pe_ix ix_tup (pv 1) pe_int (fun _ _ => rfl)) (pa_cons (pe_ix ix_tup (pv 1) pe_int (fun _ _ => rfl)) pa_nil)))))))), ?_⟩
    refine ⟨_, rfl, p, dx, _, rfl, hp, rfl, _, rfl, tt, _, 1, _, rfl, rfl, SqT.of ht, rfl, pt, rfl, ⟨_, SqT.of hpt⟩, fun Dl hDl => lc_tupv (K := K) (fun (q : Nat) => V.int (q : Int)) (fun q => xs.getD q .non) hpt (by omega) hDl ?_ ?_⟩
    · intro q H5 Y N hq s5 hy
      exact ⟨rfl, _, rfl, _, rfl, ta, xs, (q : Int), xs.getD q .non, rfl, rfl, SqL.of (s5 _ _ hta), at_of (j := q) rfl (by rw [List.getD_eq_getElem?_getD, List.getElem?_eq_getElem (hin q hq)]; rfl), hy⟩
    · intro H5 s5 h5
      refine ⟨p, Dl, dx, ra, hd, ga, ma, la, b, _, rfl, s5 _ _ hp, h5, fun q hq => ?_⟩
      refine ⟨q, _, rfl, .inl ⟨SqL.of upd_same, fun pu hpu => ?_⟩⟩
      have s6 : Same H (upd H5 q (.lst (fac b (List.map (fun q => xs.getD q .non) ps)))) := sm_upd s5 (s5.free hq)
      have s7 := sm_upd (o := .tup (fac b (List.map (fun q => xs.getD q .non) ps))) s6 (s6.free hpu)
      have ht7 := s7 _ _ ht
      refine ⟨_, rfl, p, _, dx, _, _, rfl, s7 _ _ hp, Z.cl_Needles, Z.na_Needles_back, rfl, _, rfl, ?_⟩
      cases b with
      | false => exact iteF ⟨_, rfl, _, rfl, tt, _, 2, _, rfl, rfl, SqT.of ht7, rfl, _, rfl, tt, _, 3, _, rfl, rfl, SqT.of ht7, rfl, (by show 3 ≤ sizeLine; decide), fun t ht2 => k _ t pu sd lf (s7.trans (sm_new ht2)) (s7.free ht2) (s6.free hpu) upd_same (sm_new ht2 _ _ upd_same)⟩
      | true => exact iteT ⟨_, rfl, _, rfl, tt, _, 2, _, rfl, rfl, SqT.of ht7, rfl, _, _, rfl, rfl, _, rfl, tt, _, 3, _, rfl, rfl, SqT.of ht7, rfl, _, _, rfl, rfl, (by show 3 ≤ sizeLine; decide), fun t ht2 => k _ t pu _ _ (s7.trans (sm_new ht2)) (s7.free ht2) (s6.free hpu) upd_same (sm_new ht2 _ _ upd_same)⟩
def spExchange (K : PySem.W.Frag) : Sp := fun vs H Q _ => ∃ (p dx ra hd ga ma la : Addr) (b : Bool) (rs ls : List V), vs = [.ref p] ∧ H p = some (insN K dx b ra hd ga ma la) ∧ H ra = some (.lst rs) ∧ H la = some (.lst ls) ∧
  ∀ H' q1 q2, H q1 = none → H q2 = none → q1 ≠ q2 → (∀ c, c ≠ p → c ≠ q1 → c ≠ q2 → H' c = H c) → H' q1 = some (.lst rs.reverse) → H' q2 = some (.lst ls.reverse) → H' p = some (insN K dx (!b) q2 hd ga ma q1) → Q .non H'
theorem sc_Needles_exchange : FnScope ["self", "here"] ["self"] (defScope s_Needles_exchange) := ⟨rfl, rfl, rfl, by decide +kernel, rfl, by decide +kernel, by decide +kernel⟩
theorem ok_exchange (Z : Zt K mg) : CalM P w K mg base (He.ga K "Needles") "exchange" 1 ["self"] (spExchange K) := by
  obtain ⟨fd, F⟩ := Z.du_Needles_exchange
  refine ⟨Z.cl_Needles, Z.me_Needles_exchange, fd, F.ok sc_Needles_exchange (fun vs H Q E h => ?_) (fun cdv A outer s H vs Q E hr h => ?_), FunD.bindsN F fun _ _ _ _ _ _ us hl => match us, hl with | [_], _ => rfl⟩
  · obtain ⟨_, _, _, _, _, _, _, _, _, _, rfl, _⟩ := h
    rfl
  · obtain ⟨p, dx, ra, hd, ga, ma, la, b, rs, ls, rfl, hp, hra, hla, k⟩ := h
    refine ⟨_, PSs.nox (pss_one (ps_if (pt_val (pe_fld (pv 0) rfl)) (pss_cons (ps_set (i := 1) sc_Needles_exchange.nd rfl (Or.inl rfl) (pe_fld (pv 0) rfl))
      (pss_cons (ps_fld (pv 0) (pe_lstRev (by rfl) (by rfl) Z.fr_list (by rfl) Z.fr_reversed (pe_fld (pv 0) rfl)) rfl)
      (pss_cons (ps_fld (pv 0) (pe_lstRev (by rfl) (by rfl) Z.fr_list (by rfl) Z.fr_reversed (pv 1)) rfl)
      (pss_one (ps_fld (pv 0) (pe_not (pe_fld (pv 0) rfl)) rfl))))) (pss_cons (ps_fld (pv 0) (pe_fld (pv 0) rfl) rfl)
      (pss_one (ps_fld (pv 0) (pe_lst pa_nil) rfl))))), ?_⟩
    refine ⟨_, rfl, p, _, dx, _, _, rfl, hp, Z.cl_Needles, Z.na_Needles_flat, rfl, _, rfl, iteT ⟨_, rfl, p, _, dx, _, _, rfl, hp, Z.cl_Needles, Z.na_Needles_left, rfl, ?_⟩⟩
    refine ⟨_, rfl, p, _, dx, _, _, rfl, hp, Z.cl_Needles, Z.na_Needles_right, rfl, ra, rs, rfl, SqL.of hra, fun q1 hq1 => ?_⟩
    have np1 : p ≠ q1 := ne_of_none hp hq1
    have nl : la ≠ p := fun e => by rw [e, hp] at hla; cases hla
    have nl1 : la ≠ q1 := ne_of_none hla hq1
    refine ⟨_, rfl, p, _, dx, _, rfl, by rw [upd_ne np1]; exact hp, Z.cl_Needles, Z.na_Needles_left, (by show 7 < 1000; decide), ?_⟩
    rw [pF_left]
    refine ⟨_, rfl, la, ls, rfl, SqL.of (by rw [upd_ne nl, upd_ne nl1]; exact hla), fun q2 hq2 => ?_⟩
    have n2p : q2 ≠ p := fun e => by rw [e, upd_same] at hq2; cases hq2
    rw [upd_ne n2p] at hq2
    have n21 : q2 ≠ q1 := fun e => by rw [e, upd_same] at hq2; cases hq2
    rw [upd_ne n21] at hq2
    refine ⟨_, rfl, p, _, dx, _, rfl, by rw [upd_ne (Ne.symm n2p), upd_same], Z.cl_Needles, Z.na_Needles_right, (by show 7 < 1000; decide), ?_⟩
    rw [pF_right]
    refine ⟨_, rfl, p, _, dx, _, _, rfl, upd_same, Z.cl_Needles, Z.na_Needles_back, rfl, _, rfl, _, rfl, p, _, dx, _, rfl, upd_same, Z.cl_Needles, Z.na_Needles_back, (by show 7 < 1000; decide), ?_⟩
    rw [pF_back]
    refine k _ q1 q2 hq1 hq2 (Ne.symm n21) (fun c c1 c2 c3 => ?_) ?_ ?_ upd_same
    · rw [upd_ne c1, upd_ne c1, upd_ne c3, upd_ne c1, upd_ne c2]
    · rw [upd_ne (Ne.symm np1), upd_ne (Ne.symm np1), upd_ne (Ne.symm n21), upd_ne (Ne.symm np1), upd_same]
    · rw [upd_ne n2p, upd_ne n2p, upd_same]
end K34
set_option autoImplicit true
set_option Elab.async false
set_option linter.all false
set_option maxRecDepth 100000
set_option maxHeartbeats 4000000
namespace K34
open PySem PySem.Spec PyProof.Rows L2
variable {P : Program} {w : World} {K : PySem.W.Frag} {mg : Str → Option Value} {base : Heap}

theorem iteE {c : Bool} {A B : Prop} (e : c = false) (h : B) : if c = true then A else B := by rw [if_neg (by rw [e]; decide)]; exact h
theorem iteU {c : Bool} {A B : Prop} (e : c = true) (h : A) : if c = true then A else B := by rw [if_pos e]; exact h
/-! ### held, fetched, put away -/
theorem heldGet {G H1 : Hp} {hd pl : Addr} {o : HO} {held : W → List Name} (k : W) (hc : HeldC G o held) (e : H1 hd = some o) (s : Same G H1) (hpl : H1 pl = some (.lst [])) :
    IsD H1 hd ∧ ∃ o', DGet H1 hd (.str k.str) o' ∧ ∃ b, o'.getD (.ref pl) = .ref b ∧ NmsL H1 b (held k) := by
  obtain ⟨ks, f, rfl, n, q⟩ := hc
  refine ⟨.inl ⟨_, .inl e⟩, _, DGet.k (k := keyW (some k)) e, ?_⟩
  by_cases h : some k ∈ ks
  · obtain ⟨b, e2, x⟩ := (q k).1 h
    rw [dcw_in h]
    exact ⟨b, e2, x.mono s⟩
  · rw [dcw_not h, (q k).2 h]
    exact ⟨pl, rfl, [], hpl, .nil⟩
theorem heldIs {H1 : Hp} {G : Hp} {hd : Addr} {o : HO} {held : W → List Name} (hc : HeldC G o held) (e : H1 hd = some o) : IsD H1 hd := by
  obtain ⟨ks, f, rfl, n, q⟩ := hc
  exact .inl ⟨_, .inl e⟩
theorem kstr_eq {j k : W} : (j.str == k.str) = decide (j = k) := by
  cases j <;> cases k <;> decide +kernel
theorem fet_count (row : List Stch) (k : W) : (fetL row).count k = sumS (Stch.isF k) row := by
  induction row with
  | nil => rfl
  | cons s row ih =>
    unfold fetL at ih ⊢
    rw [List.flatMap_cons, List.count_append, sumS_cons, ih]
    congr 1
    cases s <;> first | rfl | (rename_i j; cases j <;> cases k <;> rfl)
theorem flat_words (l : List W) : (l.map fun k => V.str k.str).all flatV = true := by
  rw [List.all_map, List.all_eq_true]
  intro x _
  rfl
theorem flat_wordS (l : List (Option W)) : (l.map fun k => V.str (wordS k)).all flatV = true := by
  rw [List.all_map, List.all_eq_true]
  intro x _
  rfl
theorem cnt_words (l : List W) (k : W) : ((l.map fun k => V.str k.str).countP fun y => eqV y (.str k.str)) = l.count k := by
  rw [List.countP_map, List.count]
  refine List.countP_congr fun j _ => ?_
  show (j.str == k.str) = true ↔ _
  rw [kstr_eq, decide_eq_true_eq, beq_iff_eq]
theorem in_words (l : List W) (k : W) : inV (.str k.str) (l.map fun k => V.str k.str) = decide (k ∈ l) := by
  unfold inV
  rw [Bool.eq_iff_iff, List.any_map, List.any_eq_true, decide_eq_true_eq]
  constructor
  · rintro ⟨j, hj, e⟩
    have e : (j.str == k.str) = true := e
    rw [kstr_eq, decide_eq_true_eq] at e
    rw [← e]; exact hj
  · intro h
    exact ⟨k, h, by show (k.str == k.str) = true; rw [kstr_eq]; simp⟩
theorem in_wordS (l : List (Option W)) (k : W) : inV (.str k.str) (l.map fun k => V.str (wordS k)) = decide (some k ∈ l) := by
  unfold inV
  rw [Bool.eq_iff_iff, List.any_map, List.any_eq_true, decide_eq_true_eq]
  constructor
  · rintro ⟨j, hj, e⟩
    have e : (wordS j == wordS (some k)) = true := e
    rw [beq_iff_eq] at e
    rw [← wordS_inj e]; exact hj
  · intro h
    exact ⟨some k, h, by show (wordS (some k) == wordS (some k)) = true; rw [beq_iff_eq]⟩
theorem isF_pos {s : Stch} {k : W} : 0 < s.isF k ↔ k ∈ fetOf s := by
  cases s with
  | fetch j => by_cases q : k = j
               · subst q; simp [Stch.isF, fetOf]
               · simp [Stch.isF, fetOf, q, show ¬ j = k from fun e => q e.symm]
  | _ => simp [Stch.isF, fetOf]
theorem isH_pos {s : Stch} {k : W} : 0 < s.isH k ↔ some k ∈ s.ends.map fun e => e.2 := by
  cases s with
  | keep j => by_cases q : k = j
              · subst q; simp [Stch.isH, Stch.ends]
              · simp [Stch.isH, Stch.ends, q, show ¬ j = k from fun e => q e.symm]
  | _ => simp [Stch.isH, Stch.ends]
theorem named_iff {row : List Stch} {k : W} : namedIn row k = true ↔ k ∈ fetL row ∨ some k ∈ putL row := by
  unfold namedIn fetL putL
  rw [List.any_eq_true, List.mem_flatMap, List.mem_flatMap]
  constructor
  · rintro ⟨s, hs, e⟩
    rw [Bool.or_eq_true, decide_eq_true_eq, decide_eq_true_eq, isF_pos, isH_pos] at e
    exact e.imp (fun e => ⟨s, hs, e⟩) fun e => ⟨s, hs, e⟩
  · intro h
    rcases h with ⟨s, hs, e⟩ | ⟨s, hs, e⟩
    · exact ⟨s, hs, by rw [Bool.or_eq_true, decide_eq_true_eq, decide_eq_true_eq, isF_pos, isH_pos]; exact .inl e⟩
    · exact ⟨s, hs, by rw [Bool.or_eq_true, decide_eq_true_eq, decide_eq_true_eq, isF_pos, isH_pos]; exact .inr e⟩
theorem keepers_at {i c : Nat} (h : ("wxyz" : Str).cps[i]? = some c) : ∃ k : W, allW[i]? = some k ∧ V.str ⟨#[c]⟩ = V.str k.str := by
  have e : ("wxyz" : Str).cps = #[119, 120, 121, 122] := by decide +kernel
  rw [e] at h
  rcases i with _ | _ | _ | _ | i
  · cases h; exact ⟨.w, rfl, rfl⟩
  · cases h; exact ⟨.x, rfl, rfl⟩
  · cases h; exact ⟨.y, rfl, rfl⟩
  · cases h; exact ⟨.z, rfl, rfl⟩
  · simp at h
theorem sum_takes (row : List Stch) : (row.map fun s => (s.takes : Int)).sum = ((sumS Stch.takes row : Nat) : Int) := by
  induction row with
  | nil => rfl
  | cons s row ih => rw [List.map_cons, List.sum_cons, sumS_cons, ih]; omega

/-! ### fit -/
def spFit (K : PySem.W.Frag) : Sp := fun vs H Q _ => ∃ (p sa : Addr) (A : NdA) (nd : Nd) (row : List Stch) (turn : Bool), vs = [.ref p, .ref sa, .bl turn] ∧ NdR K H p A nd ∧ StL K H sa row ∧ row.length ≤ 100000 ∧ Fits nd row turn ∧ ∀ H', Same H H' → Q .non H'
theorem sc_Needles_fit : FnScope ["self", "stitches", "turn", "number", "need", "here", "sources", "goals", "keeper", "there", "many", "one"] ["self", "stitches", "turn"] (defScope s_Needles_fit) := ⟨rfl, rfl, rfl, by decide +kernel, rfl, by decide +kernel, by decide +kernel⟩
theorem ok_fit (Z : Zt K mg) : CalM P w K mg base (He.ga K "Needles") "fit" 3 ["self", "stitches", "turn"] (spFit K) := by
  obtain ⟨fd, F⟩ := Z.du_Needles_fit
  have c_fetched := ok_fetched (P := P) (w := w) (base := base) Z
  have c_put_away := ok_put_away (P := P) (w := w) (base := base) Z
  have c_takes : ∀ st : Stch, CalM P w K mg base (He.ga K (clsS st)) "takes" 1 ["self"] (spSTakes K st) := c_takes Z
  obtain ⟨tk, hK⟩ := Z.st_KEEPERS_needles
  refine ⟨Z.cl_Needles, Z.me_Needles_fit, fd, F.ok sc_Needles_fit (fun vs H Q E h => ?_) (fun cdv A outer s H vs Q E hr h => ?_), FunD.bindsN F fun _ _ _ _ _ _ us hl => match us, hl with | [_, _, _], _ => rfl⟩
  · obtain ⟨_, _, _, _, _, _, rfl, _⟩ := h
    rfl
  · obtain ⟨p, sa, ⟨dx, ra, hd, ga, ma, la⟩, nd, row, turn, rfl, N, ⟨svs, hs, hA⟩, hl, ft, k⟩ := h
    have hu := hu_of hr
    refine ⟨_, PSs.nox (pss_cons (ps_set (i := 3) sc_Needles_fit.nd rfl (Or.inl rfl) (pe_callB call_len_seq (by rfl) Z.fr_len PySem.boot_len (pa_cons (pe_fld (pv 0) rfl) pa_nil)))
      (pss_cons (ps_set (i := 4) sc_Needles_fit.nd rfl (Or.inl rfl) (pe_callB (cr_sum rfl) (by rfl) Z.fr_sum (by decide +kernel) (pa_cons (pe_lc (own := [("one", 11)]) (by rfl) sc_Needles_fit.nd (pi_list (pv 1)) (blkOk_by (own := [("one", 11)]) (N := ["self", "stitches", "turn", "number", "need", "here", "sources", "goals", "keeper", "there", "many", "one"]) (sc := defScope s_Needles_fit) (by decide +kernel)) (fun _ _ _ _ _ => (pg_name (i := 11) sc_Needles_fit.nd rfl (Or.inl rfl) (Or.inr rfl))) (fun _ _ _ _ _ => pts_nil) (fun _ _ _ _ _ => (pe_any fun st : Stch => pe_calm0 (c_takes st) (hr.mono (by decide)) (pv 11)))) pa_nil)))
      (pss_cons (ps_set (i := 5) sc_Needles_fit.nd rfl (Or.inl rfl) (pe_callB call_len_seq (by rfl) Z.fr_len PySem.boot_len (pa_cons (pe_fld (pv 0) rfl) pa_nil)))
      (pss_cons (ps_if (PW.pt (pw_or (pt_cmpR op_gt (pv 4) (pv 5) (nomark _)) (pw_or1 (PW.pt (pw_and (pt_cmpR op_lt (pv 4) (pv 5) (nomark _)) (pw_and1 (pt_not (pt_val (pv 2))))))))) (pss_one ps_never) pss_nil)
      (pss_cons (ps_set (i := 6) sc_Needles_fit.nd rfl (Or.inl rfl) (pe_cal c_fetched (hr.mono (by decide)) (by rfl) (pa_cons (pv 1) pa_nil)))
      (pss_cons (ps_set (i := 7) sc_Needles_fit.nd rfl (Or.inl rfl) (pe_cal c_put_away (hr.mono (by decide)) (by rfl) (pa_cons (pv 1) pa_nil)))
      (pss_one (ps_for PassesOwn.never rfl (pi_str (pe_glob (v := .str "wxyz") (by rfl) hK ⟨tk, rfl⟩)) (pg_name (i := 8) sc_Needles_fit.nd rfl (Or.inl rfl)) (pss_cons (ps_set (i := 9) sc_Needles_fit.nd rfl (Or.inl rfl) (pe_callB call_len_seq (by rfl) Z.fr_len PySem.boot_len (pa_cons (pe_dget2 hu (pe_fld (pv 0) rfl) (pv 8) (pe_lst pa_nil) ⟨rfl, rfl, rfl, rfl⟩) pa_nil)))
      (pss_cons (ps_set (i := 10) sc_Needles_fit.nd rfl (Or.inl rfl) (pe_bm PySem.F.plainAttrs_list PySem.F.slot_list_count PySem.F.type_list_count mt_cntS (pv 6) (pa_cons (pv 8) pa_nil)))
      (pss_one (ps_if (PW.pt (pw_and (PW.pt (pw_or (pt_cmpR op_in_seq (pv 8) (pv 6) (by rfl)) (pw_or1 (pt_cmpR op_in_seq (pv 8) (pv 7) (by rfl))))) (pw_and1 (pt_cmpR op_ne (pv 10) (pv 9) (nomark _))))) (pss_one ps_never) pss_nil)))))))))))), ?_⟩
    obtain ⟨mvs, hm, hmA⟩ := N.md
    refine ⟨_, rfl, p, _, dx, _, _, rfl, N.ob, Z.cl_Needles, Z.na_Needles_made, rfl, ma, _, rfl, .inl (SqL.of hm), ?_⟩
    refine ⟨_, rfl, sa, rfl, ⟨_, SqL.of hs⟩, fun Dl hDl => lc_vals (K := K) (te := fun σ H Q => ∃ st : Stch, tMeth (He.ga K (clsS st)) "takes" (spSTakes K st) [] E0 (tVar 11) tNil σ H Q) (R := StR K) (fun s h => StR.mono s h) (fun _ => true) (fun s => V.int (s.takes : Int)) hs hA hl hDl ?_ ?_⟩
    · intro v st H5 Y N5 hst s5 rt hy hn
      have r2 := rt
      obtain ⟨a5, dx5, rfl, h5⟩ := rt
      exact ⟨rfl, st, _, rfl, a5, dx5, _, rfl, h5, (fld_no st).1, .ref a5, rfl, r2, hy rfl⟩
    · intro H5 s5 h5
      have N5 := N.grow s5
      obtain ⟨lvs, hl5, hlA⟩ := N5.lf
      have hl5' := (msk_of hl5).1
      have e6 : row.filter (fun _ => true) = row := List.filter_eq_self.mpr fun _ _ => rfl
      rw [e6] at h5
      refine ⟨Dl, row.map fun s => (s.takes : Int), rfl, SqL.of (by rw [h5, List.map_map]; rfl), ?_⟩
      rw [sum_takes]
      refine ⟨_, rfl, p, _, dx, _, _, rfl, N5.ob, Z.cl_Needles, Z.na_Needles_left, rfl, la, _, rfl, .inl (SqL.of hl5'), ?_⟩
      rw [hlA.1]
      have ht := ft.tk
      refine ⟨_, rfl, _, rfl, _, _, rfl, rfl, _, rfl, ?_⟩
      rw [decide_eq_false (by omega)]
      refine iteF ⟨_, rfl, _, rfl, _, _, rfl, rfl, _, rfl, ?_⟩
      have hd1 : sumS Stch.takes row < nd.left.length → decide (((sumS Stch.takes row : Nat) : Int) < (nd.left.length : Int)) = true := fun h => decide_eq_true (by omega)
      have hd2 : ¬ sumS Stch.takes row < nd.left.length → decide (((sumS Stch.takes row : Nat) : Int) < (nd.left.length : Int)) = false := fun h => decide_eq_false (by omega)
      suffices hrest : _ by
        by_cases hlt : ¬ sumS Stch.takes row < nd.left.length
        · rw [hd2 hlt]
          exact iteF (iteF hrest)
        · have hlt := Classical.not_not.mp hlt
          rw [hd1 hlt]
          have e2 : (!turn) = false := by rw [ft.tn hlt]; rfl
          exact iteT ⟨_, rfl, _, rfl, iteE e2 hrest⟩
      refine ⟨_, rfl, sa, row, rfl, ⟨svs, s5 _ _ hs, hA.mono fun v st => StR.mono s5⟩, hl, fun H6 fa s6 f6 h6 => ?_⟩
      have s06 := s5.trans s6
      refine ⟨_, rfl, sa, row, rfl, ⟨svs, s06 _ _ hs, hA.mono fun v st => StR.mono s06⟩, hl, fun H7 pa s7 f7 h7 => ?_⟩
      have s07 := s06.trans s7
      have h6' := s7 _ _ h6
      refine ⟨_, rfl, for_it walk_str (fun i σ H' => ∃ kp th mn : Option V, σ = [some (.ref p), some (.ref sa), some (.bl turn), some (.int (mvs.length : Int)), some (.int ((sumS Stch.takes row : Nat) : Int)), some (.int (nd.left.length : Int)), some (.ref fa), some (.ref pa), kp, th, mn, none] ∧ Same H7 H') ?_ (fun _ _ _ _ _ => True.intro) ?_ ?_⟩
      · exact ⟨none, none, none, rfl, Same.refl _⟩
      · rintro i x σ H' H'' hi ⟨kp, th, mn, rfl, hS⟩ ⟨rfl, c, hc, rfl⟩
        obtain ⟨j, hj, ej⟩ := keepers_at hc
        rw [ej]
        have N' := N.grow (s07.trans hS)
        obtain ⟨o, ho, hh⟩ := N'.hd
        refine ⟨_, rfl, p, _, dx, _, _, rfl, N'.ob, Z.cl_Needles, Z.na_Needles_held, rfl, hd, rfl, heldIs hh ho, _, rfl, Nat.zero_le _, fun pl hpl => ?_⟩
        have s8 := sm_new (o := .lst []) hpl
        obtain ⟨_, o', hg, b, hb, ⟨bvs, hbv, hbA⟩⟩ := heldGet j hh (s8 _ _ ho) (msk_same.trans s8) upd_same
        refine ⟨o', hg, b, bvs, by rw [hb], .inl (SqL.of hbv), ?_⟩
        rw [hbA.1]
        have h68 := (hS.trans s8) _ _ h6'
        have h78 := (hS.trans s8) _ _ h7
        refine ⟨_, rfl, .inl ⟨rfl, _, SqL.of h68⟩, _, rfl, fa, _, _, rfl, rfl, SqL.of h68, rfl, flat_words _, ?_⟩
        rw [cnt_words, fet_count]
        refine ⟨_, rfl, _, rfl, fa, _, rfl, .inl (SqL.of h68), rfl, flat_words _, _, rfl, ?_⟩
        rw [if_neg (by decide), in_words]
        have fe : namedIn row j = true → (!decide (V.int ((sumS (Stch.isF j) row : Nat) : Int) = V.int ((nd.held j).length : Int))) = false := fun hn => by rw [ft.fe j hn]; simp
        have s9 := hS.trans s8
        by_cases hA : j ∈ fetL row
        · exact iteU (decide_eq_true hA) (iteT ⟨_, rfl, _, rfl, rfl, _, rfl, iteE (fe (named_iff.mpr (.inl hA))) ⟨_, _, _, rfl, s9⟩⟩)
        · refine iteE (decide_eq_false hA) ⟨_, rfl, _, rfl, pa, _, rfl, .inl (SqL.of h78), rfl, flat_wordS _, _, rfl, ?_⟩
          rw [if_neg (by decide), in_wordS]
          by_cases hB : some j ∈ putL row
          · exact iteU (decide_eq_true hB) ⟨_, rfl, _, rfl, rfl, _, rfl, iteE (fe (named_iff.mpr (.inr hB))) ⟨_, _, _, rfl, s9⟩⟩
          · exact iteE (decide_eq_false hB) (iteF ⟨_, _, _, rfl, s9⟩)
      · rintro σ H' ⟨kp, th, mn, rfl, hS⟩
        exact k H' (s07.trans hS)
end K34
set_option autoImplicit true
set_option Elab.async false
set_option linter.all false
set_option maxRecDepth 100000
set_option maxHeartbeats 4000000
namespace K34
open PySem PySem.Spec PyProof.Rows L2
variable {P : Program} {w : World} {K : PySem.W.Frag} {mg : Str → Option Value} {base : Heap}

/-! ### needles made -/
theorem pF_app {f g : Str} {v u : V} {r : List (Str × V)} (h : ¬ g = f) : putF f v ((g, u) :: r) = (g, u) :: putF f v r := if_neg h
def spInit (K : PySem.W.Frag) : Sp := fun vs H Q _ => ∃ (x dx : Addr) (n : Nat), vs = [.ref x, .str "flat", .int (n : Int), .non, .non] ∧ n ≤ 100000 ∧ H x = some (.ins (He.ga K "Needles") dx []) ∧
  ∀ H' A, Same (msk [x] H) (msk (A.own x) H') → NdR K H' x A (newNd n) → Q .non H'
theorem sc_Needles_init : FnScope ["self", "way", "cast", "web", "names", "keeper", "kept", "k", "loops", "name"] ["self", "way", "cast", "web", "names"] (defScope s_Needles_init) := ⟨rfl, rfl, rfl, by decide +kernel, rfl, by decide +kernel, by decide +kernel⟩
theorem i_Needles (Z : Zt K mg) : CalID P w K mg base "Needles" 1 ["self", "way", "cast", "web", "names"] (spInit K) [.non, .non] := by
  obtain ⟨fd, F⟩ := Z.du_Needles_init
  obtain ⟨ds, hv, hb⟩ := FunD.binds1 (ps := ["self", "way", "cast", "web", "names"]) F 3 0 (by simp [He.DefD.dvs]; decide) rfl fun T kV doc pm an cdv ct us its h1 h2 => by
    match us, its, h1, h2 with
    | [a, b, c], [d, e], _, _ => exact ⟨_, rfl, rfl⟩
  refine ⟨Z.gl_Needles, Z.mk_Needles, fd, ds, F.ok sc_Needles_init (fun vs H Q E h => ?_) (fun cdv A outer s H vs Q E hr h => ?_), hv, hb⟩
  · obtain ⟨_, _, _, rfl, _⟩ := h
    rfl
  · obtain ⟨x, dx, n, rfl, hn, hx, k⟩ := h
    refine ⟨_, PSs.nox (pss_cons (ps_fld (pv 0) (pe_cmpR op_eq (pv 1) pe_str (nomark _)) rfl)
      (pss_cons (ps_fld (pv 0) pe_bl rfl)
      (pss_cons (ps_fld (pv 0) (pe_lst pa_nil) rfl)
      (pss_cons (ps_fld (pv 0) pe_dnewK rfl)
      (pss_cons (ps_fld (pv 0) (pe_lst pa_nil) rfl)
      (pss_cons (ps_if (pt_cmp (pc_isN (pv 3))) (pss_one (ps_fld (pv 0) (pe_lst (pa_cons (pe_lc (own := [("k", 7)]) (by rfl) sc_Needles_init.nd (pi_range1 (by rfl) Z.fr_range (pa_cons (pv 2) pa_nil)) (blkOk_by (own := [("k", 7)]) (N := ["self", "way", "cast", "web", "names", "keeper", "kept", "k", "loops", "name"]) (sc := defScope s_Needles_init) (by decide +kernel)) (fun _ _ _ _ _ => (pg_name (i := 7) sc_Needles_init.nd rfl (Or.inl rfl) (Or.inr rfl))) (fun _ _ _ _ _ => pts_nil) (fun _ _ _ _ _ => (pe_tup (pa_cons (pe_tup pa_nil) (pa_cons pe_int (pa_cons pe_int pa_nil)))))) pa_nil)) rfl)) pss_never)
      (pss_one (ps_fld (pv 0) (pe_lc (own := [("k", 7)]) (by rfl) sc_Needles_init.nd (pi_range1 (by rfl) Z.fr_range (pa_cons (pe_callB call_len_seq (by rfl) Z.fr_len PySem.boot_len (pa_cons (pe_ix ix_list (pe_fld (pv 0) rfl) (pe_un un_neg pe_int) (fun _ _ => rfl)) pa_nil)) pa_nil)) (blkOk_by (own := [("k", 7)]) (N := ["self", "way", "cast", "web", "names", "keeper", "kept", "k", "loops", "name"]) (sc := defScope s_Needles_init) (by decide +kernel)) (fun _ _ _ _ _ => (pg_name (i := 7) sc_Needles_init.nd rfl (Or.inl rfl) (Or.inr rfl))) (fun _ _ _ _ _ => pts_nil) (fun _ _ _ _ _ => (pe_tup (pa_cons (pe_op op_sub (pe_callB (call_lenK (K := K) rfl) (by rfl) Z.fr_len PySem.boot_len (pa_cons (pe_fldK (K := K) rfl (pv 0) rfl) pa_nil)) pe_int) (pa_cons (pv 7) pa_nil))))) rfl)))))))), ?_⟩
    have em : (decide (V.str "flat" = V.str "flat")) = true := by decide +kernel
    refine ⟨_, rfl, rfl, _, rfl, x, _, dx, _, rfl, hx, Z.cl_Needles, Z.na_Needles_flat, (by show 0 < 1000; decide), ?_⟩
    rw [putF_nil, em]
    refine ⟨_, rfl, x, _, dx, _, rfl, upd_same, Z.cl_Needles, Z.na_Needles_back, (by show 1 < 1000; decide), ?_⟩
    rw [upd_upd, pF_app (by decide +kernel), putF_nil]
    have nx : ∀ {A : Hp} {q : Addr} {o : HO}, A q = none → A x = some o → q ≠ x := fun h1 h2 e => by rw [e, h2] at h1; cases h1
    have tk : ∀ {A B : Hp} {q : Addr} {o : HO}, Same (msk [x] A) (msk [x] B) → A q = some o → q ≠ x → B q = some o := fun t e n => (msk_of (t _ _ (by rw [msk_out (by simp [n])]; exact e))).1
    have ne : ∀ {A B : Hp} {q r : Addr} {o : HO}, Same (msk [x] A) (msk [x] B) → A q = some o → q ≠ x → B r = none → q ≠ r := fun t e n h => ne_of_none (tk t e n) h
    generalize hH1 : upd H x _ = H1
    have hx1 : H1 x = some (.ins (He.ga K "Needles") dx [("flat", .bl true), ("back", .bl false)]) := by rw [← hH1, upd_same]
    have t1 : Same (msk [x] H) (msk [x] H1) := by rw [← hH1, msk_upd (by simp)]; exact Same.refl _
    clear hH1
    refine ⟨Nat.zero_le _, fun ra hra => ?_⟩
    have xra := nx hra hx1
    refine ⟨_, rfl, x, _, dx, _, rfl, by rw [upd_ne (Ne.symm xra)]; exact hx1, Z.cl_Needles, Z.na_Needles_right, (by show 2 < 1000; decide), ?_⟩
    rw [pF_app (by decide +kernel), pF_app (by decide +kernel), putF_nil]
    generalize hH2 : upd (upd H1 ra _) x _ = H2
    have hx2 : H2 x = some (.ins (He.ga K "Needles") dx [("flat", .bl true), ("back", .bl false), ("right", .ref ra)]) := by rw [← hH2, upd_same]
    have t2 : Same (msk [x] H1) (msk [x] H2) := by rw [← hH2, msk_upd (by simp)]; exact msk_mono (sm_new hra)
    have ra2 : H2 ra = some (.lst []) := by rw [← hH2, upd_ne xra, upd_same]
    clear hH2
    intro hd hhd
    have xhd := nx hhd hx2
    have n1 := ne (Same.refl _) ra2 xra hhd
    refine ⟨_, rfl, x, _, dx, _, rfl, by rw [upd_ne (Ne.symm xhd)]; exact hx2, Z.cl_Needles, Z.na_Needles_held, (by show 3 < 1000; decide), ?_⟩
    rw [pF_app (by decide +kernel), pF_app (by decide +kernel), pF_app (by decide +kernel), putF_nil]
    generalize hH3 : upd (upd H2 hd _) x _ = H3
    have hx3 : H3 x = some (.ins (He.ga K "Needles") dx [("flat", .bl true), ("back", .bl false), ("right", .ref ra), ("held", .ref hd)]) := by rw [← hH3, upd_same]
    have t3 : Same (msk [x] H2) (msk [x] H3) := by rw [← hH3, msk_upd (by simp)]; exact msk_mono (sm_new hhd)
    have hd3 : H3 hd = some (.dK []) := by rw [← hH3, upd_ne xhd, upd_same]
    clear hH3
    refine ⟨Nat.zero_le _, fun ga hga => ?_⟩
    have xga := nx hga hx3
    have n2 := ne t3 ra2 xra hga
    have n3 := ne (Same.refl _) hd3 xhd hga
    refine ⟨_, rfl, x, _, dx, _, rfl, by rw [upd_ne (Ne.symm xga)]; exact hx3, Z.cl_Needles, Z.na_Needles_gone, (by show 4 < 1000; decide), ?_⟩
    rw [pF_app (by decide +kernel), pF_app (by decide +kernel), pF_app (by decide +kernel), pF_app (by decide +kernel), putF_nil]
    generalize hH4 : upd (upd H3 ga _) x _ = H4
    have hx4 : H4 x = some (.ins (He.ga K "Needles") dx [("flat", .bl true), ("back", .bl false), ("right", .ref ra), ("held", .ref hd), ("gone", .ref ga)]) := by rw [← hH4, upd_same]
    have t4 : Same (msk [x] H3) (msk [x] H4) := by rw [← hH4, msk_upd (by simp)]; exact msk_mono (sm_new hga)
    have ga4 : H4 ga = some (.lst []) := by rw [← hH4, upd_ne xga, upd_same]
    clear hH4
    have hnb : -(2 ^ 62) ≤ (n : Int) ∧ (n : Int) < 2 ^ 62 := ⟨by omega, by omega⟩
    refine ⟨_, rfl, _, rfl, iteT ⟨_, rfl, (n : Int), rfl, hnb.1, hnb.2, fun D hD => ?_⟩⟩
    rw [Int.toNat_natCast]
    refine lc_range (fun j H5 => Same H4 (msk [D] H5) ∧ ∃ ws, H5 D = some (.lst ws) ∧ All2 (LoopR (msk [D, x, ra, hd, ga] H5)) ws (List.replicate j [])) ?_ ?_ ?_
    · exact ⟨msk_into (sm_new hD) fun a ha => by rw [List.mem_singleton.mp ha]; exact hD, [], upd_same, .nil⟩
    · rintro j H5 hj ⟨q1, ws, q2, q3⟩
      refine ⟨rfl, Nat.zero_le _, fun te hte => ⟨(by show 3 ≤ sizeLine; decide), fun t ht => ⟨ws, sm_new ht _ _ (sm_new hte _ _ q2), ?_, ?_, _, upd_same, ?_⟩⟩⟩
      · rw [q3.1, List.length_replicate]; exact szt (by omega)
      · rw [msk_upd (by simp)]
        exact q1.trans (msk_mono ((sm_new hte).trans (sm_new ht)))
      · rw [show msk [D, x, ra, hd, ga] (upd _ D _) = _ from msk_upd (by simp), List.replicate_succ']
        have nt : te ∉ [D, x, ra, hd, ga] := fun e => by
          have q1' := q1.trans msk_same
          simp only [List.mem_cons, List.not_mem_nil, or_false] at e
          rcases e with rfl | rfl | rfl | rfl | rfl
          · rw [q2] at hte; cases hte
          · rw [q1' _ _ hx4] at hte; cases hte
          · rw [q1' _ _ (tk (t3.trans t4) ra2 xra)] at hte; cases hte
          · rw [q1' _ _ (tk t4 hd3 xhd)] at hte; cases hte
          · rw [q1' _ _ ga4] at hte; cases hte
        have nt0 : te ≠ D := fun e => by rw [e, q2] at hte; cases hte
        have nt2 : t ∉ [D, x, ra, hd, ga] := fun e => by
          have q1' := (q1.trans msk_same).trans (sm_new (o := .tup []) hte)
          simp only [List.mem_cons, List.not_mem_nil, or_false] at e
          rcases e with rfl | rfl | rfl | rfl | rfl
          · rw [sm_new hte _ _ q2] at ht; cases ht
          · rw [q1' _ _ hx4] at ht; cases ht
          · rw [q1' _ _ (tk (t3.trans t4) ra2 xra)] at ht; cases ht
          · rw [q1' _ _ (tk t4 hd3 xhd)] at ht; cases ht
          · rw [q1' _ _ ga4] at ht; cases ht
        refine (q3.mono fun _ _ => LoopR.mono (msk_mono ((sm_new hte).trans (sm_new ht)))).snoc ⟨t, te, 0, 0, rfl, ?_, [], ?_, .nil⟩
        · rw [msk_out nt2, upd_same]
        · rw [msk_out nt]
          exact sm_new ht _ _ upd_same
    · rintro H5 ⟨q1, ws, q2, q3⟩
      have s5 : Same H4 H5 := q1.trans msk_same
      have nDx : D ≠ x := nx hD hx4
      have nDra := (ne (t3.trans t4) ra2 xra hD).symm
      have nDhd := (ne t4 hd3 xhd hD).symm
      have nDga := (ne (Same.refl _) ga4 xga hD).symm
      refine ⟨(by show 1 ≤ sizeLine; decide), fun ma hma => ?_⟩
      have hx5 := s5 _ _ hx4
      have xma := nx hma hx5
      have t45 := msk_mono (M := [x]) s5
      have n4 := ne (t3.trans (t4.trans t45)) ra2 xra hma
      have n5 := ne (t4.trans t45) hd3 xhd hma
      have n6 := ne t45 ga4 xga hma
      have nDm : D ≠ ma := ne_of_none q2 hma
      refine ⟨_, rfl, x, _, dx, _, rfl, by rw [upd_ne (Ne.symm xma)]; exact hx5, Z.cl_Needles, Z.na_Needles_made, (by show 5 < 1000; decide), ?_⟩
      rw [pF_app (by decide +kernel), pF_app (by decide +kernel), pF_app (by decide +kernel), pF_app (by decide +kernel), pF_app (by decide +kernel), putF_nil]
      generalize hH6 : upd (upd H5 ma _) x _ = H6
      have hx6 : H6 x = some (.ins (He.ga K "Needles") dx [("flat", .bl true), ("back", .bl false), ("right", .ref ra), ("held", .ref hd), ("gone", .ref ga), ("made", .ref ma)]) := by rw [← hH6, upd_same]
      have t6 : Same (msk [x] H5) (msk [x] H6) := by rw [← hH6, msk_upd (by simp)]; exact msk_mono (sm_new hma)
      have ma6 : H6 ma = some (.lst [.ref D]) := by rw [← hH6, upd_ne xma, upd_same]
      clear hH6
      have D6 := tk t6 q2 nDx
      have hD6 := SqL.of (K := K) D6
      have hwl : ws.length = n := by rw [q3.1, List.length_replicate]
      refine ⟨_, rfl, x, _, dx, _, _, rfl, hx6, Z.cl_Needles, Z.na_Needles_made, rfl, _, rfl, ma, [.ref D], _, _, rfl, rfl, SqL.of ma6, last_at (k := 1) rfl (by decide) rfl, D, ws, rfl, .inl hD6, (ws.length : Int), rfl, ?_⟩
      rw [hwl]
      refine ⟨hnb.1, hnb.2, fun D2 hD2 => ?_⟩
      rw [Int.toNat_natCast]
      have own6 : ∀ {H7 : Hp}, Same H6 H7 → H7 x ≠ none ∧ H7 ra = some (.lst []) ∧ H7 hd = some (.dK []) ∧ H7 ga = some (.lst []) ∧ H7 ma = some (.lst [.ref D]) := fun s7 => by
        have t46 := (msk_mono (M := [x]) s5).trans t6
        exact ⟨by rw [s7 _ _ hx6]; simp, s7 _ _ (tk (t3.trans (t4.trans t46)) ra2 xra), s7 _ _ (tk (t4.trans t46) hd3 xhd), s7 _ _ (tk t46 ga4 xga), s7 _ _ ma6⟩
      refine lc_range (fun j H7 => Same H6 (msk [D2] H7) ∧ ∃ us, H7 D2 = some (.lst us) ∧ All2 (NmR (msk [D2, x, ra, hd, ga, ma] H7)) us (nmRow 0 j)) ?_ ?_ ?_
      · exact ⟨msk_into (sm_new hD2) fun a ha => by rw [List.mem_singleton.mp ha]; exact hD2, [], upd_same, .nil⟩
      · rintro j H7 hj ⟨g1, us, g2, g3⟩
        have s7 := g1.trans msk_same
        obtain ⟨o1, o2, o3, o4, o5⟩ := own6 s7
        refine ⟨rfl, _, rfl, x, _, dx, _, _, rfl, s7 _ _ hx6, Z.cl_Needles, Z.na_Needles_made, rfl, ma, _, rfl, .inl (SqL.of o5), _, _, rfl, rfl, _, rfl, (by show 2 ≤ sizeLine; decide), fun t ht => ⟨us, sm_new ht _ _ g2, ?_, ?_, _, upd_same, ?_⟩⟩
        · rw [g3.1, length_nmRow]; exact szt (by omega)
        · rw [msk_upd (by simp)]
          exact g1.trans (msk_mono (sm_new ht))
        · rw [show msk [D2, x, ra, hd, ga, ma] (upd _ D2 _) = _ from msk_upd (by simp), nmRow_succ]
          have nt : t ∉ [D2, x, ra, hd, ga, ma] := fun e => by
            simp only [List.mem_cons, List.not_mem_nil, or_false] at e
            rcases e with rfl | rfl | rfl | rfl | rfl | rfl
            · rw [g2] at ht; cases ht
            · exact o1 ht
            · rw [o2] at ht; cases ht
            · rw [o3] at ht; cases ht
            · rw [o4] at ht; cases ht
            · rw [o5] at ht; cases ht
          refine (g3.mono fun _ _ => NmR.mono (msk_mono (sm_new ht))).snoc ⟨t, rfl, ?_⟩
          rw [msk_out nt, upd_same, Int.zero_add]
          rfl
      · rintro H7 ⟨g1, us, g2, g3⟩
        have s7 := g1.trans msk_same
        obtain ⟨o1, o2, o3, o4, o5⟩ := own6 s7
        have nD2x := nx hD2 hx6
        refine ⟨_, rfl, x, _, dx, _, rfl, s7 _ _ hx6, Z.cl_Needles, Z.na_Needles_left, (by show 6 < 1000; decide), ?_⟩
        rw [pF_app (by decide +kernel), pF_app (by decide +kernel), pF_app (by decide +kernel), pF_app (by decide +kernel), pF_app (by decide +kernel), pF_app (by decide +kernel), putF_nil]
        have u8 : ∀ {b : Addr} {o : HO}, H7 b = some o → b ≠ x → (upd H7 x (.ins (He.ga K "Needles") dx (ndF false ra hd ga ma D2))) b = some o := fun h n => by rw [upd_ne n]; exact h
        have t67 := msk_mono (M := [x]) s7
        obtain ⟨p1, p2, p3, p4, p5⟩ := own6 (Same.refl H6)
        have nD2 : D2 ∉ [x, ra, hd, ga, ma] := fun e => by
          simp only [List.mem_cons, List.not_mem_nil, or_false] at e
          rcases e with rfl | rfl | rfl | rfl | rfl
          · exact p1 hD2
          · rw [p2] at hD2; cases hD2
          · rw [p3] at hD2; cases hD2
          · rw [p4] at hD2; cases hD2
          · rw [p5] at hD2; cases hD2
        have nD : D ∉ [x, ra, hd, ga, ma] := by simp [nDx, nDra, nDhd, nDga, nDm]
        refine k _ ⟨dx, ra, hd, ga, ma, D2⟩ (fun b u e => ?_) ?_
        · obtain ⟨e1, e2⟩ := msk_of e
          have e2 : b ≠ x := by simpa using e2
          have f1 := tk t1 e1 e2
          have f3 := tk (t2.trans t3) f1 e2
          have f5 := tk (t4.trans t45) f3 e2
          have m1 := ne (Same.refl _) f1 e2 hra
          have m2 := ne t2 f1 e2 hhd
          have m3 := ne (Same.refl _) f3 e2 hga
          have m4 := ne (Same.refl _) f5 e2 hma
          rw [msk_out (by unfold NdA.own; simp [e2, m1, m2, m3, m4])]
          exact u8 (s7 _ _ (tk t6 f5 e2)) e2
        · have sEl : ∀ b u, msk [D, x, ra, hd, ga] H5 b = some u → msk [x, ra, hd, ga, ma] (upd H7 x (.ins (He.ga K "Needles") dx (ndF false ra hd ga ma D2))) b = some u := fun b u e => by
            obtain ⟨e1, e2⟩ := msk_of e
            simp only [List.mem_cons, List.not_mem_nil, or_false, not_or] at e2
            have m4 : b ≠ ma := ne_of_none e1 hma
            rw [msk_out (by simp [e2, m4])]
            exact u8 (s7 _ _ (tk t6 e1 e2.2.1)) e2.2.1
          refine ⟨by unfold NdA.own; simp [xra.symm, xhd.symm, xga.symm, xma.symm, n1, n2, n3, n4, n5, n6], upd_same, ⟨[], u8 o2 xra, .nil⟩, ⟨us, ?_, ?_⟩, ⟨_, u8 o3 xhd, [], fun _ => .non, rfl, ⟨List.nodup_nil, by simp⟩, fun k => ⟨fun h => absurd h (by simp), fun _ => rfl⟩⟩, ⟨[], u8 o4 xga, .nil⟩, ⟨_, u8 o5 xma, .one ⟨D, ws, rfl, ?_, q3.mono fun _ _ => LoopR.mono sEl⟩⟩⟩
          · show msk [x, ra, hd, ga, ma] _ _ = _
            rw [msk_out nD2]
            exact u8 g2 nD2x
          · refine g3.mono fun _ _ => NmR.mono fun b u e => ?_
            obtain ⟨e1, e2⟩ := msk_of e
            simp only [List.mem_cons, List.not_mem_nil, or_false, not_or] at e2
            show msk [x, ra, hd, ga, ma] _ _ = _
            rw [msk_out (by simp [e2])]
            exact u8 e1 e2.2.1
          · show msk [x, ra, hd, ga, ma] _ _ = _
            rw [msk_out nD]
            exact u8 (s7 _ _ D6) nDx
end K34
set_option autoImplicit true
set_option Elab.async false
set_option linter.all false
set_option maxRecDepth 100000
set_option maxHeartbeats 4000000
namespace K34
open PySem PySem.Spec PyProof.Rows L2
variable {P : Program} {w : World} {K : PySem.W.Frag} {mg : Str → Option Value} {base : Heap}

/-! ### the web told -/
open Classical in
theorem All2.perm {α : Type} [Inhabited α] {R : V → α → Prop} {vs ys : List V} {xs : List α} (h : All2 R vs xs) (hf : ∀ v x x', R v x → R v x' → x = x') (p : ys.Perm vs) : ∃ zs, zs.Perm xs ∧ All2 R ys zs := by
  let g : V → α := fun v => if q : ∃ x, R v x then q.choose else default
  have gv : ∀ v x, R v x → g v = x := fun v x r => by
    have q : ∃ x, R v x := ⟨x, r⟩
    show (if q : ∃ x, R v x then q.choose else default) = x
    rw [dif_pos q]
    exact hf _ _ _ q.choose_spec r
  have e : vs.map g = xs := by
    refine List.ext_getElem? fun i => ?_
    rw [List.getElem?_map]
    cases e1 : vs[i]? with
    | none =>
      have := List.getElem?_eq_none_iff.mp e1
      rw [List.getElem?_eq_none (by rw [← h.1]; exact this)]
      rfl
    | some v =>
      obtain ⟨x, e2, r⟩ := h.getV e1
      rw [e2]
      show some (g v) = some x
      rw [gv v x r]
  refine ⟨ys.map g, by rw [← e]; exact p.map g, by rw [List.length_map], fun i v x e1 e2 => ?_⟩
  rw [List.getElem?_map, e1] at e2
  cases e2
  have hv : v ∈ vs := p.mem_iff.mp (List.mem_of_getElem? e1)
  obtain ⟨j, hj⟩ := List.getElem?_of_mem hv
  obtain ⟨x, _, r⟩ := h.getV hj
  rw [gv v x r]
  exact r
theorem NmR.fun_ {H : Hp} {v : V} {n m : Name} (h : NmR H v n) (k : NmR H v m) : n = m := by
  obtain ⟨t, rfl, e1⟩ := h
  obtain ⟨u, e, e2⟩ := k
  cases e
  rw [e1] at e2
  have := HO.tup.inj (Option.some.inj e2)
  simp only [List.cons.injEq, V.int.injEq, and_true] at this
  exact Prod.ext (by omega) (by omega)
/-- what is kept, keeper by keeper -/
def keptTo (held : W → List Name) (i : Nat) : List (W × List Name) := ((allW.take i).filter fun k => decide (held k ≠ [])).map fun k => (k, held k)
def webOf (nd : Nd) (off : List Name) : WebD := ⟨nd.made, fac nd.back (nd.right ++ nd.left), keptTo nd.held 4, off⟩
theorem fac_all {R : V → Name → Prop} {b : Bool} {vs : List V} {xs : List Name} (h : All2 R vs xs) : All2 R (fac b vs) (fac b xs) := by
  cases b with
  | false => exact h
  | true => exact h.reverse
def spWeb (K : PySem.W.Frag) : Sp := fun vs H Q _ => ∃ (p : Addr) (A : NdA) (nd : Nd), vs = [.ref p] ∧ NdR K H p A nd ∧ nd.left.length + nd.right.length ≤ 100000 ∧ nd.made.length ≤ 100000 ∧
  ∀ H' v off, Same H H' → off.Perm nd.gone → WebR H' v (webOf nd off) → Q v H'
theorem sc_Needles_web : FnScope ["self", "kept", "keeper", "names", "lying", "loops"] ["self"] (defScope s_Needles_web) := ⟨rfl, rfl, rfl, by decide +kernel, rfl, by decide +kernel, by decide +kernel⟩
theorem ok_web (Z : Zt K mg) : CalM P w K mg base (He.ga K "Needles") "web" 2 ["self"] (spWeb K) := by
  obtain ⟨fd, F⟩ := Z.du_Needles_web
  have c_facing := ok_facing (P := P) (w := w) (base := base) Z
  obtain ⟨tk, hK⟩ := Z.st_KEEPERS_needles
  refine ⟨Z.cl_Needles, Z.me_Needles_web, fd, F.ok sc_Needles_web (fun vs H Q E h => ?_) (fun cdv A outer s H vs Q E hr h => ?_), FunD.bindsN F fun _ _ _ _ _ _ us hl => match us, hl with | [_], _ => rfl⟩
  · obtain ⟨_, _, _, rfl, _⟩ := h
    rfl
  · obtain ⟨p, ⟨dx, ra, hd, ga, ma, la⟩, nd, rfl, N, hlr, hml, k⟩ := h
    have hu := hu_of hr
    refine ⟨_, PSs.nox (pss_cons (ps_set (i := 1) sc_Needles_web.nd rfl (Or.inl rfl) (pe_lst pa_nil))
      (pss_cons (ps_for PassesOwn.never rfl (pi_str (pe_glob (v := .str "wxyz") (by rfl) hK ⟨tk, rfl⟩)) (pg_name (i := 2) sc_Needles_web.nd rfl (Or.inl rfl)) (pss_cons (ps_set (i := 3) sc_Needles_web.nd rfl (Or.inl rfl) (pe_callTy call_list_of (by rfl) Z.fr_list (by decide +kernel) (pa_cons (pe_dget2 hu (pe_fld (pv 0) rfl) (pv 2) (pe_lst pa_nil) ⟨rfl, rfl, rfl, rfl⟩) pa_nil)))
      (pss_one (ps_if (pt_cmpR (op_neD hr.units) (pv 3) (pe_lst pa_nil) (nomark _)) (pss_one (ps_expr (pe_bm PySem.F.plainAttrs_list PySem.F.slot_list_append PySem.F.type_list_append mt_append (pv 1) (pa_cons (pe_tup (pa_cons (pv 2) (pa_cons (pv 3) pa_nil))) pa_nil)))) pss_nil))))
      (pss_cons (ps_set (i := 4) sc_Needles_web.nd rfl (Or.inl rfl) (pe_calm c_facing (hr.mono (by decide)) (pv 0) (pa_cons (pe_op op_cat (pe_fld (pv 0) rfl) (pe_fld (pv 0) rfl)) pa_nil)))
      (pss_one (ps_ret (pe_tup (pa_cons (pe_lc (own := [("loops", 5)]) (by rfl) sc_Needles_web.nd (pi_list (pe_fld (pv 0) rfl)) (blkOk_by (own := [("loops", 5)]) (N := ["self", "kept", "keeper", "names", "lying", "loops"]) (sc := defScope s_Needles_web) (by decide +kernel)) (fun _ _ _ _ _ => (pg_name (i := 5) sc_Needles_web.nd rfl (Or.inl rfl) (Or.inr rfl))) (fun _ _ _ _ _ => pts_nil) (fun _ _ _ _ _ => (pe_callTy (call_listK (K := K) rfl) (by rfl) Z.fr_list (by decide +kernel) (pa_cons (pv 5) pa_nil)))) (pa_cons (pv 4) (pa_cons (pv 1) (pa_cons (pe_callB cr_sortedP (by rfl) Z.fr_sorted (by decide +kernel) (pa_cons (pe_fld (pv 0) rfl) pa_nil)) pa_nil)))))))))), ?_⟩
    refine ⟨Nat.zero_le _, fun l hl => ?_⟩
    have hG : Same H (msk [l] (upd H l (.lst []))) := msk_into (sm_new hl) fun a ha => by rw [List.mem_singleton.mp ha]; exact hl
    refine ⟨_, rfl, for_it walk_str (fun i σ H' => ∃ kp ns : Option V, σ = [some (.ref p), some (.ref l), kp, ns, none, none] ∧ Same H (msk [l] H') ∧ ∃ vs, H' l = some (.lst vs) ∧ All2 (KeptR (msk [l] H')) vs (keptTo nd.held i)) ?_ (fun _ _ _ _ _ => True.intro) ?_ ?_⟩
    · exact ⟨none, none, rfl, hG, [], upd_same, .nil⟩
    · rintro i x σ H' H'' hi ⟨kp, ns, rfl, hS, vs, hv, hvA⟩ ⟨rfl, c, hc, rfl⟩
      obtain ⟨j, hj, ej⟩ := keepers_at hc
      rw [ej]
      have hS' := hS.trans (msk_same (H := H''))
      have N' := N.grow hS'
      obtain ⟨o, ho, hh⟩ := N'.hd
      refine ⟨_, rfl, p, _, dx, _, _, rfl, N'.ob, Z.cl_Needles, Z.na_Needles_held, rfl, hd, rfl, heldIs hh ho, _, rfl, Nat.zero_le _, fun pl hpl => ?_⟩
      have s8 := sm_new (o := .lst []) hpl
      -- the contents stand beside l
      have hmG : Same (msk [l] H'') (msk [l] (upd H'' pl (.lst []))) := msk_mono s8
      obtain ⟨o0, ho0, hh0⟩ := N.hd
      have e0 : o0 = o := Option.some.inj ((hS' _ _ ho0).symm.trans ho)
      subst e0
      have hll : l ≠ pl := ne_of_none hv hpl
      obtain ⟨_, o', hg, b, hb, hbN⟩ := heldGet (G := msk _ H) (H1 := msk [l] (upd H'' pl (.lst []))) (hd := hd) (pl := pl) j hh0 (hmG _ _ (hS _ _ ho0)) (msk_same.trans (hS.trans hmG)) (by rw [msk_out (by simp [hll.symm]), upd_same])
      obtain ⟨bvs, hbv, hbA⟩ := hbN
      have hg' : DGet (upd H'' pl (.lst [])) hd (.str j.str) o' := by
        rcases hg with ⟨kvs, kk, r, e1, e2⟩ | ⟨kvs, kk, bb, r, e1, e2, e3⟩
        · exact .inl ⟨kvs, kk, rd_mono msk_same r, e1, e2⟩
        · cases e1
      refine ⟨o', hg', b, bvs, by rw [hb], .inl (SqL.of (msk_of hbv).1), fun q hq => ?_⟩
      have s9 := sm_new (o := .lst bvs) hq
      have hlq : q ≠ l := fun e => by rw [e, s8 _ _ hv] at hq; cases hq
      have hqN : NmsL (msk [l] (upd (upd H'' pl (.lst [])) q (.lst bvs))) q (nd.held j) := ⟨bvs, by rw [msk_out (by simp [hlq]), upd_same], hbA.mono fun _ _ => NmR.mono (msk_mono s9)⟩
      refine ⟨_, rfl, Nat.zero_le _, fun q2 hq2 => ?_⟩
      have s10 := sm_new (o := .lst []) hq2
      refine ⟨_, _, dp_names (hqN.mono (msk_same.trans s10)), dp_nil upd_same, shaped_names _, shaped_names [], _, rfl, ?_⟩
      rw [eqv_names]
      have sA := (s8.trans s9).trans s10
      by_cases hne : nd.held j = []
      · refine iteE (by rw [decide_eq_true hne]; rfl) ⟨_, _, rfl, hS.trans (msk_mono sA), vs, sA _ _ hv, ?_⟩
        have e5 : keptTo nd.held (i + 1) = keptTo nd.held i := by
          unfold keptTo
          rw [take_snoc hj, List.filter_append]
          simp [hne]
        rw [e5]
        exact hvA.mono fun _ _ => KeptR.mono (msk_mono sA)
      · refine iteU (by rw [decide_eq_false hne]; rfl) ⟨_, rfl, .inl ⟨rfl, _, SqL.of (sA _ _ hv)⟩, _, rfl, _, rfl, (by show 2 ≤ sizeLine; decide), fun t ht => ?_⟩
        have sB := sm_new (o := .tup [.str j.str, .ref q]) ht
        have htl : t ≠ l := fun e => by rw [e, sA _ _ hv] at ht; cases ht
        refine ⟨l, vs, _, rfl, rfl, sB _ _ (sA _ _ hv), ?_, _, _, rfl, ?_, _, upd_same, ?_⟩
        · rw [hvA.1]
          unfold keptTo
          rw [List.length_map]
          have h1 := List.length_filter_le (fun k => decide (nd.held k ≠ [])) (allW.take i)
          rw [List.length_take] at h1
          have : allW.length = 4 := rfl
          exact szt (by omega)
        · rw [msk_upd (by simp)]
          exact hS.trans (msk_mono (sA.trans sB))
        · rw [msk_upd (by simp)]
          have e5 : keptTo nd.held (i + 1) = keptTo nd.held i ++ [(j, nd.held j)] := by
            unfold keptTo
            rw [take_snoc hj, List.filter_append, List.map_append]
            simp [hne]
          rw [e5]
          exact (hvA.mono fun _ _ => KeptR.mono (msk_mono (sA.trans sB))).snoc ⟨t, q, rfl, by rw [msk_out (by simp [htl]), upd_same], hqN.mono (msk_mono (s10.trans sB))⟩
    · rintro σ H1 ⟨kp, ns, rfl, hS, vs, hv, hvA⟩
      have hS' := hS.trans (msk_same (H := H1))
      have hkl : KeptL H1 l (keptTo nd.held 4) := ⟨vs, hv, hvA.mono fun _ _ => KeptR.mono msk_same⟩
      have N1 := N.grow hS'
      obtain ⟨rvs, hr1, hrA⟩ := N1.rt
      obtain ⟨lvs, hl1, hlA⟩ := N1.lf
      have hl1' := (msk_of hl1).1
      refine ⟨_, rfl, p, dx, _, rfl, N1.ob, rfl, _, rfl, p, _, dx, _, _, rfl, N1.ob, Z.cl_Needles, Z.na_Needles_right, rfl, _, rfl, p, _, dx, _, _, rfl, N1.ob, Z.cl_Needles, Z.na_Needles_left, rfl, ra, la, rvs, lvs, rfl, rfl, hr1, hl1', ?_, fun c hc => ?_⟩
      · rw [hrA.1, hlA.1]; exact szl (by omega)
      have s2 := sm_new (o := .lst (rvs ++ lvs)) hc
      refine ⟨p, c, dx, ra, hd, ga, ma, la, nd.back, rvs ++ lvs, rfl, s2 _ _ N1.ob, upd_same, fun y hy => ?_⟩
      have s3 := s2.trans (sm_new (o := .lst (fac nd.back (rvs ++ lvs))) hy)
      have hly : NmsL (upd (upd H1 c (.lst (rvs ++ lvs))) y (.lst (fac nd.back (rvs ++ lvs)))) y (fac nd.back (nd.right ++ nd.left)) :=
        ⟨_, upd_same, fac_all ((hrA.append hlA).mono fun _ _ => NmR.mono (msk_same.trans s3))⟩
      generalize hH2 : upd (upd H1 c (.lst (rvs ++ lvs))) y (.lst (fac nd.back (rvs ++ lvs))) = H2 at s3 hly ⊢
      clear hH2
      have N2 := N1.grow s3
      obtain ⟨mvs, hm2, hmA⟩ := N2.md
      refine ⟨_, rfl, p, _, dx, _, _, rfl, N2.ob, Z.cl_Needles, Z.na_Needles_made, rfl, ma, rfl, ⟨_, SqL.of hm2⟩, fun D hD => ?_⟩
      refine lc_list (K := K) (a := ma) (xs := mvs) (fun j H5 => Same H2 (msk [D] H5) ∧ ∃ ws, H5 D = some (.lst ws) ∧ All2 (RowR (msk [D] H5)) ws (nd.made.take j)) ?_ ?_ ?_ ?_
      · exact ⟨msk_into (sm_new hD) fun a ha => by rw [List.mem_singleton.mp ha]; exact hD, [], upd_same, .nil⟩
      · rintro j H5 hj ⟨q1, _⟩
        exact SqL.of ((q1.trans msk_same) _ _ hm2)
      · rintro j v H5 hx ⟨q1, ws, q2, q3⟩
        obtain ⟨row, er, r⟩ := hmA.getV hx
        have r' := r.mono (msk_same.trans q1)
        obtain ⟨a5, avs, rfl, h5, hA5⟩ := r'
        refine ⟨rfl, _, rfl, a5, avs, rfl, .inl (SqL.of (msk_of h5).1), fun q hq => ⟨ws, sm_new hq _ _ q2, ?_, ?_, _, upd_same, ?_⟩⟩
        · rw [q3.1, List.length_take]; exact szt (by omega)
        · rw [msk_upd (by simp)]
          exact q1.trans (msk_mono (sm_new hq))
        · rw [msk_upd (by simp), take_snoc er]
          have hqD : q ≠ D := fun e => by rw [e, q2] at hq; cases hq
          exact (q3.mono fun _ _ => RowR.mono (msk_mono (sm_new hq))).snoc ⟨q, avs, rfl, by rw [msk_out (by simp [hqD]), upd_same], hA5.mono fun _ _ => LoopR.mono (msk_mono (sm_new hq))⟩
      · rintro H5 ⟨q1, ws, q2, q3⟩
        have s5 := q1.trans (msk_same (H := H5))
        have N5 := N2.grow s5
        obtain ⟨gvs, hg5, hgA⟩ := N5.gn
        have e5 : nd.made.take mvs.length = nd.made := List.take_of_length_le (by rw [hmA.1]; exact Nat.le_refl _)
        rw [e5] at q3
        refine ⟨_, rfl, _, rfl, _, rfl, p, _, dx, _, _, rfl, N5.ob, Z.cl_Needles, Z.na_Needles_gone, rfl, ga, gvs, rfl, SqL.of hg5, fun x hx => ?_, fun ys pp hp hpp => ?_⟩
        · obtain ⟨i, hi⟩ := List.getElem?_of_mem hx
          obtain ⟨n, _, t, e1, e2⟩ := hgA.getV hi
          exact ⟨t, _, _, e1, (msk_of e2).1⟩
        · obtain ⟨zs, hz, hzA⟩ := All2.perm hgA (fun _ _ _ => NmR.fun_) hp
          have s6 := sm_new (o := .lst ys) hpp
          refine ⟨(by show 4 ≤ sizeLine; decide), fun t ht => ?_⟩
          have s7 := s6.trans (sm_new (o := .tup [.ref D, .ref y, .ref l, .ref pp]) ht)
          refine k _ _ zs (((hS'.trans s3).trans s5).trans s7) hz ⟨t, D, y, l, pp, rfl, upd_same, ⟨ws, s7 _ _ q2, q3.mono fun _ _ => RowR.mono (msk_same.trans s7)⟩, hly.mono (s5.trans s7), hkl.mono ((s3.trans s5).trans s7), ⟨ys, sm_new ht _ _ upd_same, ?_⟩⟩
          · exact hzA.mono fun _ _ => NmR.mono (msk_same.trans s7)
end K34
set_option autoImplicit true
set_option Elab.async false
set_option linter.all false
set_option maxRecDepth 100000
set_option maxHeartbeats 4000000
namespace K34
open PySem PySem.Spec PyProof.Rows L2
variable {P : Program} {w : World} {K : PySem.W.Frag} {mg : Str → Option Value} {base : Heap}

/-! ### needles at work -/
inductive Sl | self | right | held | gone | made | fresh | stock | put | st (o : Option W) | pt (o : Option W)
  deriving DecidableEq
structure Cn where
  dx : Addr
  la : Addr
  back : Bool
  left : List Name
  right : List Name
  held : W → List Name
  gone : List Name
  made : Rows
  fresh : List (List Name)
  kst : List (Option W)
  kpt : List (Option W)
  sto : Option W → List Name
  puo : Option W → List Name
  lput : Bool
def stoO (f : W → List Name) : Option W → List Name
  | some k => f k
  | none => []
def live (C : Cn) : Sl → Prop
  | .st o => o ∈ C.kst
  | .pt o => o ∈ C.kpt
  | .put => C.lput = true
  | _ => True
def LstN (G : Hp) (o : HO) (ns : List Name) : Prop := ∃ vs, o = .lst vs ∧ All2 (NmR G) vs ns
def SlR (K : PySem.W.Frag) (G : Hp) (ad : Sl → Addr) (C : Cn) : Sl → HO → Prop
  | .self, o => o = insN K C.dx C.back (ad .right) (ad .held) (ad .gone) (ad .made) C.la
  | .right, o => LstN G o C.right
  | .held, o => HeldC G o C.held
  | .gone, o => LstN G o C.gone
  | .made, o => ∃ vs, o = .lst vs ∧ All2 (RowR G) vs C.made
  | .fresh, o => ∃ vs, o = .lst vs ∧ All2 (LoopR G) vs C.fresh
  | .stock, o => o = .dK (dcw C.kst fun u => .ref (ad (.st u)))
  | .put, o => o = .dK (dcw C.kpt fun u => .ref (ad (.pt u)))
  | .st u, o => LstN G o (C.sto u)
  | .pt u, o => LstN G o (C.puo u)
theorem LstN.mono {G G' : Hp} {o : HO} {ns : List Name} (s : Same G G') (h : LstN G o ns) : LstN G' o ns := let ⟨vs, e, q⟩ := h; ⟨vs, e, q.mono fun _ _ => NmR.mono s⟩
theorem SlR.mono {G G' : Hp} {ad : Sl → Addr} {C : Cn} {s : Sl} {o : HO} (h : Same G G') (q : SlR K G ad C s o) : SlR K G' ad C s o := by
  cases s with
  | self => exact q
  | right => exact LstN.mono h q
  | held => exact HeldC.mono h q
  | gone => exact LstN.mono h q
  | made => exact let ⟨vs, e, r⟩ := q; ⟨vs, e, r.mono fun _ _ => RowR.mono h⟩
  | fresh => exact let ⟨vs, e, r⟩ := q; ⟨vs, e, r.mono fun _ _ => LoopR.mono h⟩
  | stock => exact q
  | put => exact q
  | st u => exact LstN.mono h q
  | pt u => exact LstN.mono h q
def noT (o : HO) : Prop := ∀ xs, o ≠ .tup xs
theorem SlR.noT {G : Hp} {ad : Sl → Addr} {C : Cn} {s : Sl} {o : HO} (h : SlR K G ad C s o) : noT o := by
  intro xs e
  subst e
  cases s with
  | self => cases h
  | right => obtain ⟨vs, e, _⟩ := h; cases e
  | held => obtain ⟨vs, f, e, _⟩ := h; cases e
  | gone => obtain ⟨vs, e, _⟩ := h; cases e
  | made => obtain ⟨vs, e, _⟩ := h; cases e
  | fresh => obtain ⟨vs, e, _⟩ := h; cases e
  | stock => cases h
  | put => cases h
  | st u => obtain ⟨vs, e, _⟩ := h; cases e
  | pt u => obtain ⟨vs, e, _⟩ := h; cases e
structure Wk (K : PySem.W.Frag) (G0 H : Hp) (M : List Addr) (ad : Sl → Addr) (C : Cn) : Prop where
  sm : Same G0 (msk M H)
  dom : ∀ a, a ∈ M → ∃ o, H a = some o ∧ noT o
  inM : ∀ s, live C s → ad s ∈ M
  inj : ∀ s t, live C s → live C t → ad s = ad t → s = t
  all : ∀ s, live C s → ∃ o, H (ad s) = some o ∧ SlR K (msk M H) ad C s o
  lf : NmsL (msk M H) C.la C.left
  kn : C.kst.Nodup ∧ C.kpt.Nodup
section
variable {G0 H H' : Hp} {M : List Addr} {ad : Sl → Addr} {C C' : Cn} {s : Sl} {o : HO} {q a : Addr}
theorem Wk.grow (W : Wk K G0 H M ad C) (h : Same H H') : Wk K G0 H' M ad C := by
  refine ⟨W.sm.trans (msk_mono h), fun a ha => ?_, W.inM, W.inj, fun s hs => ?_, W.lf.mono (msk_mono h), W.kn⟩
  · obtain ⟨o, e, n⟩ := W.dom a ha
    exact ⟨o, h _ _ e, n⟩
  · obtain ⟨o, e, r⟩ := W.all s hs
    exact ⟨o, h _ _ e, r.mono (msk_mono h)⟩
theorem Wk.re (W : Wk K G0 H M ad C) : Wk K (msk M H) H M ad C := ⟨Same.refl _, W.dom, W.inM, W.inj, W.all, W.lf, W.kn⟩
theorem Wk.of (W : Wk K H' H M ad C) (h : Same G0 H') : Wk K G0 H M ad C := ⟨h.trans W.sm, W.dom, W.inM, W.inj, W.all, W.lf, W.kn⟩
theorem Wk.out (W : Wk K G0 H M ad C) (h : H q = none) : q ∉ M := fun e => by
  obtain ⟨o, e, _⟩ := W.dom q e
  rw [h] at e; cases e
theorem dom_upd (d : ∀ a, a ∈ M → ∃ o, H a = some o ∧ noT o) (n : noT o) : ∀ b, b ∈ M → ∃ o', upd H a o b = some o' ∧ noT o' := fun b hb => by
  by_cases e : b = a
  · rw [e, upd_same]; exact ⟨o, rfl, n⟩
  · rw [upd_ne e]; exact d b hb
/-- an owned object changes -/
theorem Wk.setS (W : Wk K G0 H M ad C) (hs : live C s) (hl : ∀ t, live C' t → live C t) (ho : SlR K (msk M H) ad C' s o)
    (ht : ∀ t u, t ≠ s → SlR K (msk M H) ad C t u → SlR K (msk M H) ad C' t u) (lf : NmsL (msk M H) C'.la C'.left) (kn : C'.kst.Nodup ∧ C'.kpt.Nodup) : Wk K G0 (L2.upd H (ad s) o) M ad C' := by
  have e : msk M (L2.upd H (ad s) o) = msk M H := msk_upd (W.inM s hs)
  refine ⟨by rw [e]; exact W.sm, dom_upd W.dom ho.noT, fun t h => W.inM t (hl t h), fun t u h1 h2 => W.inj t u (hl t h1) (hl u h2), fun t h => ?_, by rw [e]; exact lf, kn⟩
  rw [e]
  by_cases q : t = s
  · subst q; exact ⟨o, upd_same, ho⟩
  · obtain ⟨u, h1, h2⟩ := W.all t (hl t h)
    exact ⟨u, by rw [upd_ne fun z => q (W.inj t s (hl t h) hs z)]; exact h1, ht t u q h2⟩
/-- an object that is owned no more changes -/
theorem Wk.updO (W : Wk K G0 H M ad C) (ha : a ∈ M) (hn : ∀ t, live C t → ad t ≠ a) (nt : noT o) : Wk K G0 (L2.upd H a o) M ad C := by
  have e : msk M (L2.upd H a o) = msk M H := msk_upd ha
  refine ⟨by rw [e]; exact W.sm, dom_upd W.dom nt, W.inM, W.inj, fun t h => ?_, by rw [e]; exact W.lf, W.kn⟩
  rw [e]
  obtain ⟨u, h1, h2⟩ := W.all t h
  exact ⟨u, by rw [upd_ne (hn t h)]; exact h1, h2⟩
/-- what is told of an owned object is told otherwise -/
theorem Wk.as (W : Wk K G0 H M ad C) (hl : ∀ t, live C' t → live C t) (ht : ∀ t u, live C' t → SlR K (msk M H) ad C t u → SlR K (msk M H) ad C' t u) (lf : C'.la = C.la ∧ C'.left = C.left) (kn : C'.kst.Nodup ∧ C'.kpt.Nodup) : Wk K G0 H M ad C' :=
  ⟨W.sm, W.dom, fun t h => W.inM t (hl t h), fun t u h1 h2 => W.inj t u (hl t h1) (hl u h2), fun t h => let ⟨u, h1, h2⟩ := W.all t (hl t h); ⟨u, h1, ht t u h h2⟩, by rw [lf.1, lf.2]; exact W.lf, kn⟩
/-- a new list for a word of the stock -/
theorem Wk.newSt {u : Option W} {vs : List V} (W : Wk K G0 H M ad C) (hq : H q = none) (hv : All2 (NmR (msk M H)) vs (C.sto u)) :
    Wk K G0 (L2.upd (L2.upd H q (.lst vs)) (ad .stock) (.dK (putK (dcw C.kst fun u => .ref (ad (.st u))) (keyW u) (.ref q)))) (q :: M) (fun s => if s = .st u then q else ad s) { C with kst := insO C.kst u } := by
  have hin : ad .stock ∈ M := W.inM .stock True.intro
  have hqa : ∀ t, live C t → ad t ≠ q := fun t h e => by
    obtain ⟨o, h1, _⟩ := W.all t h
    rw [e, hq] at h1; cases h1
  have e : msk (q :: M) (L2.upd (L2.upd H q (.lst vs)) (ad .stock) (.dK (putK (dcw C.kst fun u => .ref (ad (.st u))) (keyW u) (.ref q)))) = msk M H := by
    rw [msk_upd (List.mem_cons_of_mem _ hin), msk_cons hq]
  have hl : ∀ t, t ≠ .st u → live { C with kst := insO C.kst u } t → live C t := fun t n h => by
    cases t with
    | st o => exact (mem_insO.mp h).resolve_right fun e => n (by rw [e])
    | _ => exact h
  refine ⟨by rw [e]; exact W.sm, fun b hb => ?_, fun t h => ?_, fun t t' h1 h2 h3 => ?_, fun t h => ?_, by rw [e]; exact W.lf, nodup_insO W.kn.1, W.kn.2⟩
  · by_cases q1 : b = ad .stock
    · rw [q1, upd_same]; exact ⟨_, rfl, fun xs e => by cases e⟩
    · rw [upd_ne q1]
      by_cases q2 : b = q
      · rw [q2, upd_same]; exact ⟨_, rfl, fun xs e => by cases e⟩
      · rw [upd_ne q2]
        exact W.dom b ((List.mem_cons.mp hb).resolve_left q2)
  · show (if t = .st u then q else ad t) ∈ _
    by_cases q1 : t = .st u
    · rw [if_pos q1]; exact List.mem_cons_self
    · rw [if_neg q1]; exact List.mem_cons_of_mem _ (W.inM t (hl t q1 h))
  · have h3 : (if t = .st u then q else ad t) = (if t' = .st u then q else ad t') := h3
    by_cases q1 : t = .st u
    · by_cases q2 : t' = .st u
      · rw [q1, q2]
      · rw [if_pos q1, if_neg q2] at h3
        exact absurd h3.symm (hqa t' (hl t' q2 h2))
    · by_cases q2 : t' = .st u
      · rw [if_neg q1, if_pos q2] at h3
        exact absurd h3 (hqa t (hl t q1 h1))
      · rw [if_neg q1, if_neg q2] at h3
        exact W.inj t t' (hl t q1 h1) (hl t' q2 h2) h3
  · rw [e]
    by_cases q1 : t = .st u
    · subst q1
      refine ⟨.lst vs, ?_, vs, rfl, hv⟩
      show L2.upd _ _ _ (if Sl.st u = Sl.st u then q else _) = _
      rw [if_pos rfl, upd_ne (hqa .stock True.intro).symm, upd_same]
    · have h' := hl t q1 h
      by_cases q2 : t = .stock
      · subst q2
        refine ⟨_, upd_same, ?_⟩
        show HO.dK _ = .dK (dcw (insO C.kst u) _)
        rw [dcw_put]
        congr 1
        refine dcw_congr fun m _ => ?_
        show _ = V.ref (if Sl.st m = Sl.st u then q else ad (.st m))
        by_cases q3 : m = u
        · rw [if_pos q3, if_pos (by rw [q3])]
        · rw [if_neg q3, if_neg fun z => q3 (Sl.st.inj z)]
      · obtain ⟨x, h1, h2⟩ := W.all t h'
        refine ⟨x, ?_, ?_⟩
        · show L2.upd _ _ _ (if t = Sl.st u then q else ad t) = _
          rw [if_neg q1, upd_ne fun z => q2 (W.inj t .stock h' True.intro z), upd_ne (hqa t h')]
          exact h1
        · cases t <;> first | exact h2 | exact absurd rfl q2
theorem Wk.newPt {u : Option W} {vs : List V} (W : Wk K G0 H M ad C) (lp : C.lput = true) (hq : H q = none) (hv : All2 (NmR (msk M H)) vs (C.puo u)) :
    Wk K G0 (L2.upd (L2.upd H q (.lst vs)) (ad .put) (.dK (putK (dcw C.kpt fun u => .ref (ad (.pt u))) (keyW u) (.ref q)))) (q :: M) (fun s => if s = .pt u then q else ad s) { C with kpt := insO C.kpt u } := by
  have hin : ad .put ∈ M := W.inM .put lp
  have hqa : ∀ t, live C t → ad t ≠ q := fun t h e => by
    obtain ⟨o, h1, _⟩ := W.all t h
    rw [e, hq] at h1; cases h1
  have e : msk (q :: M) (L2.upd (L2.upd H q (.lst vs)) (ad .put) (.dK (putK (dcw C.kpt fun u => .ref (ad (.pt u))) (keyW u) (.ref q)))) = msk M H := by
    rw [msk_upd (List.mem_cons_of_mem _ hin), msk_cons hq]
  have hl : ∀ t, t ≠ .pt u → live { C with kpt := insO C.kpt u } t → live C t := fun t n h => by
    cases t with
    | pt o => exact (mem_insO.mp h).resolve_right fun e => n (by rw [e])
    | _ => exact h
  refine ⟨by rw [e]; exact W.sm, fun b hb => ?_, fun t h => ?_, fun t t' h1 h2 h3 => ?_, fun t h => ?_, by rw [e]; exact W.lf, W.kn.1, nodup_insO W.kn.2⟩
  · by_cases q1 : b = ad .put
    · rw [q1, upd_same]; exact ⟨_, rfl, fun xs e => by cases e⟩
    · rw [upd_ne q1]
      by_cases q2 : b = q
      · rw [q2, upd_same]; exact ⟨_, rfl, fun xs e => by cases e⟩
      · rw [upd_ne q2]
        exact W.dom b ((List.mem_cons.mp hb).resolve_left q2)
  · show (if t = .pt u then q else ad t) ∈ _
    by_cases q1 : t = .pt u
    · rw [if_pos q1]; exact List.mem_cons_self
    · rw [if_neg q1]; exact List.mem_cons_of_mem _ (W.inM t (hl t q1 h))
  · have h3 : (if t = .pt u then q else ad t) = (if t' = .pt u then q else ad t') := h3
    by_cases q1 : t = .pt u
    · by_cases q2 : t' = .pt u
      · rw [q1, q2]
      · rw [if_pos q1, if_neg q2] at h3
        exact absurd h3.symm (hqa t' (hl t' q2 h2))
    · by_cases q2 : t' = .pt u
      · rw [if_neg q1, if_pos q2] at h3
        exact absurd h3 (hqa t (hl t q1 h1))
      · rw [if_neg q1, if_neg q2] at h3
        exact W.inj t t' (hl t q1 h1) (hl t' q2 h2) h3
  · rw [e]
    by_cases q1 : t = .pt u
    · subst q1
      refine ⟨.lst vs, ?_, vs, rfl, hv⟩
      show L2.upd _ _ _ (if Sl.pt u = Sl.pt u then q else _) = _
      rw [if_pos rfl, upd_ne (hqa .put lp).symm, upd_same]
    · have h' := hl t q1 h
      by_cases q2 : t = .put
      · subst q2
        refine ⟨_, upd_same, ?_⟩
        show HO.dK _ = .dK (dcw (insO C.kpt u) _)
        rw [dcw_put]
        congr 1
        refine dcw_congr fun m _ => ?_
        show _ = V.ref (if Sl.pt m = Sl.pt u then q else ad (.pt m))
        by_cases q3 : m = u
        · rw [if_pos q3, if_pos (by rw [q3])]
        · rw [if_neg q3, if_neg fun z => q3 (Sl.pt.inj z)]
      · obtain ⟨x, h1, h2⟩ := W.all t h'
        refine ⟨x, ?_, ?_⟩
        · show L2.upd _ _ _ (if t = Sl.pt u then q else ad t) = _
          rw [if_neg q1, upd_ne fun z => q2 (W.inj t .put h' lp z), upd_ne (hqa t h')]
          exact h1
        · cases t <;> first | exact h2 | exact absurd rfl q2
end
structure AdF (ad : Sl → Addr) (p ra hd ga ma fr sd pd : Addr) : Prop where
  self : ad .self = p
  right : ad .right = ra
  held : ad .held = hd
  gone : ad .gone = ga
  made : ad .made = ma
  fresh : ad .fresh = fr
  stock : ad .stock = sd
  put : ad .put = pd
/-- the work begins -/
theorem Wk.start {H H' : Hp} {p : Addr} {A : NdA} {nd : Nd} {fr sd pd p0 : Addr} (N : NdR K H p A nd) (s : Same H H') (h1 : H' fr = some (.lst [])) (h2 : H' sd = some (.dK [])) (h3 : H' pd = some (.dK (dcw [none] fun _ => .ref p0))) (h4 : H' p0 = some (.lst []))
    (f1 : H fr = none) (f2 : H sd = none) (f3 : H pd = none) (f4 : H p0 = none) (d : [fr, sd, pd, p0].Nodup) :
    ∃ M ad, Wk K (msk (A.own p) H) H' M ad ⟨A.dx, A.la, nd.back, nd.left, nd.right, nd.held, nd.gone, nd.made, [], [], [none], fun o => fac nd.back (stoO nd.held o), fun _ => [], true⟩ ∧
      AdF ad p A.ra A.hd A.ga A.ma fr sd pd ∧ ∀ a, a ∈ A.own p → a ∈ M := by
  obtain ⟨dx, ra, hd, ga, ma, la⟩ := A
  obtain ⟨v1, e1, q1⟩ := N.rt
  obtain ⟨v2, e2, q2⟩ := N.gn
  obtain ⟨v3, e3, q3⟩ := N.md
  obtain ⟨o, e4, q4⟩ := N.hd
  have eb := N.ob
  have n0 := N.ne
  have hN : [p, ra, hd, ga, ma, fr, sd, pd, p0].Nodup := by
    refine (List.nodup_append (l₁ := [p, ra, hd, ga, ma])).mpr ⟨n0, d, fun a ha b hb e => ?_⟩
    have ha' : H a ≠ none := by
      simp only [List.mem_cons, List.not_mem_nil, or_false] at ha
      rcases ha with rfl | rfl | rfl | rfl | rfl <;> simp_all
    have hb' : H b = none := by
      simp only [List.mem_cons, List.not_mem_nil, or_false] at hb
      rcases hb with rfl | rfl | rfl | rfl <;> assumption
    exact ha' (by rw [e]; exact hb')
  have sG : Same (msk [p, ra, hd, ga, ma] H) (msk [p, ra, hd, ga, ma, fr, sd, pd, p0] H') := fun b u e => by
    obtain ⟨g1, g2⟩ := msk_of e
    have m1 := ne_of_none g1 f1
    have m2 := ne_of_none g1 f2
    have m3 := ne_of_none g1 f3
    have m4 := ne_of_none g1 f4
    simp only [List.mem_cons, List.not_mem_nil, or_false, not_or] at g2
    rw [msk_out (by simp [g2, m1, m2, m3, m4])]
    exact s _ _ g1
  let ad : Sl → Addr := fun s => match s with
    | .self => p | .right => ra | .held => hd | .gone => ga | .made => ma | .fresh => fr | .stock => sd | .put => pd | .st _ => p | .pt _ => p0
  refine ⟨[p, ra, hd, ga, ma, fr, sd, pd, p0], ad, ⟨sG, fun a ha => ?_, fun t h => ?_, fun t t' h1 h2 h3 => ?_, fun t h => ?_, N.lf.mono sG, List.nodup_nil, by simp⟩, ⟨rfl, rfl, rfl, rfl, rfl, rfl, rfl, rfl⟩, fun a ha => List.mem_append_left [fr, sd, pd, p0] ha⟩
  · simp only [List.mem_cons, List.not_mem_nil, or_false] at ha
    rcases ha with rfl | rfl | rfl | rfl | rfl | rfl | rfl | rfl | rfl
    · exact ⟨_, s _ _ eb, fun xs e => by cases e⟩
    · exact ⟨_, s _ _ e1, fun xs e => by cases e⟩
    · obtain ⟨ks, f, e5, _⟩ := q4
      exact ⟨_, s _ _ e4, fun xs e => by rw [e5] at e; cases e⟩
    · exact ⟨_, s _ _ e2, fun xs e => by cases e⟩
    · exact ⟨_, s _ _ e3, fun xs e => by cases e⟩
    · exact ⟨_, h1, fun xs e => by cases e⟩
    · exact ⟨_, h2, fun xs e => by cases e⟩
    · exact ⟨_, h3, fun xs e => by cases e⟩
    · exact ⟨_, h4, fun xs e => by cases e⟩
  · cases t with
    | st u => simp [live] at h
    | _ => simp [ad]
  · simp only [List.nodup_cons, List.mem_cons, List.not_mem_nil, or_false, not_or] at hN
    have l1 : ∀ u, live (Cn.mk dx la nd.back nd.left nd.right nd.held nd.gone nd.made [] [] [none] (fun o => fac nd.back (stoO nd.held o)) (fun _ => []) true) (.st u) → False := fun u h => by simp [live] at h
    have l2 : ∀ u, live (Cn.mk dx la nd.back nd.left nd.right nd.held nd.gone nd.made [] [] [none] (fun o => fac nd.back (stoO nd.held o)) (fun _ => []) true) (.pt u) → u = none := fun u h => by simpa [live] using h
    cases t <;> cases t' <;> first
      | rfl
      | exact (l1 _ h1).elim
      | exact (l1 _ h2).elim
      | (rw [l2 _ h1, l2 _ h2])
      | (exfalso; have h3 : (_ : Addr) = _ := h3; simp only [ad] at h3; simp_all)
  · cases t with
    | self => exact ⟨_, s _ _ eb, rfl⟩
    | right => exact ⟨_, s _ _ e1, v1, rfl, q1.mono fun _ _ => NmR.mono sG⟩
    | held => exact ⟨_, s _ _ e4, q4.mono sG⟩
    | gone => exact ⟨_, s _ _ e2, v2, rfl, q2.mono fun _ _ => NmR.mono sG⟩
    | made => exact ⟨_, s _ _ e3, v3, rfl, q3.mono fun _ _ => RowR.mono sG⟩
    | fresh => exact ⟨_, h1, [], rfl, .nil⟩
    | stock => exact ⟨_, h2, rfl⟩
    | put => exact ⟨_, h3, rfl⟩
    | st u => simp [live] at h
    | pt u => exact ⟨_, h4, [], rfl, .nil⟩
section
variable {G0 H H' : Hp} {M : List Addr} {ad : Sl → Addr} {C : Cn} {p ra hd ga ma fr sd pd : Addr} {u : Option W}
theorem Wk.gObj (W : Wk K G0 H M ad C) (F : AdF ad p ra hd ga ma fr sd pd) : H p = some (insN K C.dx C.back ra hd ga ma C.la) := by
  obtain ⟨o, e, r⟩ := W.all .self True.intro
  have r : o = _ := r
  rw [F.self, r, F.right, F.held, F.gone, F.made] at e
  exact e
theorem Wk.gRight (W : Wk K G0 H M ad C) (F : AdF ad p ra hd ga ma fr sd pd) : ∃ vs, H ra = some (.lst vs) ∧ All2 (NmR (msk M H)) vs C.right := by
  obtain ⟨o, e, vs, rfl, q⟩ := W.all .right True.intro
  exact ⟨vs, by rw [← F.right]; exact e, q⟩
theorem Wk.gHeld (W : Wk K G0 H M ad C) (F : AdF ad p ra hd ga ma fr sd pd) : ∃ o, H hd = some o ∧ HeldC (msk M H) o C.held := by
  obtain ⟨o, e, q⟩ := W.all .held True.intro
  exact ⟨o, by rw [← F.held]; exact e, q⟩
theorem Wk.gGone (W : Wk K G0 H M ad C) (F : AdF ad p ra hd ga ma fr sd pd) : ∃ vs, H ga = some (.lst vs) ∧ All2 (NmR (msk M H)) vs C.gone := by
  obtain ⟨o, e, vs, rfl, q⟩ := W.all .gone True.intro
  exact ⟨vs, by rw [← F.gone]; exact e, q⟩
theorem Wk.gMade (W : Wk K G0 H M ad C) (F : AdF ad p ra hd ga ma fr sd pd) : ∃ vs, H ma = some (.lst vs) ∧ All2 (RowR (msk M H)) vs C.made := by
  obtain ⟨o, e, vs, rfl, q⟩ := W.all .made True.intro
  exact ⟨vs, by rw [← F.made]; exact e, q⟩
theorem Wk.gFresh (W : Wk K G0 H M ad C) (F : AdF ad p ra hd ga ma fr sd pd) : ∃ vs, H fr = some (.lst vs) ∧ All2 (LoopR (msk M H)) vs C.fresh := by
  obtain ⟨o, e, vs, rfl, q⟩ := W.all .fresh True.intro
  exact ⟨vs, by rw [← F.fresh]; exact e, q⟩
theorem Wk.gStock (W : Wk K G0 H M ad C) (F : AdF ad p ra hd ga ma fr sd pd) : H sd = some (.dK (dcw C.kst fun u => .ref (ad (.st u)))) := by
  obtain ⟨o, e, q⟩ := W.all .stock True.intro
  have q : o = _ := q
  rw [F.stock, q] at e
  exact e
theorem Wk.gPut (W : Wk K G0 H M ad C) (F : AdF ad p ra hd ga ma fr sd pd) (l : C.lput = true) : H pd = some (.dK (dcw C.kpt fun u => .ref (ad (.pt u)))) := by
  obtain ⟨o, e, q⟩ := W.all .put l
  have q : o = _ := q
  rw [F.put, q] at e
  exact e
theorem Wk.gSt (W : Wk K G0 H M ad C) (h : u ∈ C.kst) : ∃ vs, H (ad (.st u)) = some (.lst vs) ∧ All2 (NmR (msk M H)) vs (C.sto u) := by
  obtain ⟨o, e, vs, rfl, q⟩ := W.all (.st u) h
  exact ⟨vs, e, q⟩
theorem Wk.gPt (W : Wk K G0 H M ad C) (h : u ∈ C.kpt) : ∃ vs, H (ad (.pt u)) = some (.lst vs) ∧ All2 (NmR (msk M H)) vs (C.puo u) := by
  obtain ⟨o, e, vs, rfl, q⟩ := W.all (.pt u) h
  exact ⟨vs, e, q⟩
theorem Wk.sRight (W : Wk K G0 H M ad C) (F : AdF ad p ra hd ga ma fr sd pd) {vs : List V} {l : List Name} (h : All2 (NmR (msk M H)) vs l) : Wk K G0 (upd H ra (.lst vs)) M ad { C with right := l } := by
  rw [← F.right]
  exact W.setS (C' := { C with right := l }) (s := .right) True.intro (fun t h => by cases t <;> exact h) ⟨vs, rfl, h⟩ (fun t u n h => by cases t <;> first | exact h | exact absurd rfl n) W.lf W.kn
theorem Wk.sFresh (W : Wk K G0 H M ad C) (F : AdF ad p ra hd ga ma fr sd pd) {vs : List V} {l : List (List Name)} (h : All2 (LoopR (msk M H)) vs l) : Wk K G0 (upd H fr (.lst vs)) M ad { C with fresh := l } := by
  rw [← F.fresh]
  exact W.setS (C' := { C with fresh := l }) (s := .fresh) True.intro (fun t h => by cases t <;> exact h) ⟨vs, rfl, h⟩ (fun t u n h => by cases t <;> first | exact h | exact absurd rfl n) W.lf W.kn
theorem Wk.sGone (W : Wk K G0 H M ad C) (F : AdF ad p ra hd ga ma fr sd pd) {vs : List V} {l : List Name} (h : All2 (NmR (msk M H)) vs l) : Wk K G0 (upd H ga (.lst vs)) M ad { C with gone := l } := by
  rw [← F.gone]
  exact W.setS (C' := { C with gone := l }) (s := .gone) True.intro (fun t h => by cases t <;> exact h) ⟨vs, rfl, h⟩ (fun t u n h => by cases t <;> first | exact h | exact absurd rfl n) W.lf W.kn
theorem Wk.sMade (W : Wk K G0 H M ad C) (F : AdF ad p ra hd ga ma fr sd pd) {vs : List V} {l : Rows} (h : All2 (RowR (msk M H)) vs l) : Wk K G0 (upd H ma (.lst vs)) M ad { C with made := l } := by
  rw [← F.made]
  exact W.setS (C' := { C with made := l }) (s := .made) True.intro (fun t h => by cases t <;> exact h) ⟨vs, rfl, h⟩ (fun t u n h => by cases t <;> first | exact h | exact absurd rfl n) W.lf W.kn
theorem Wk.sHeld (W : Wk K G0 H M ad C) (F : AdF ad p ra hd ga ma fr sd pd) {o : HO} {l : K34.W → List Name} (h : HeldC (msk M H) o l) : Wk K G0 (upd H hd o) M ad { C with held := l } := by
  rw [← F.held]
  exact W.setS (C' := { C with held := l }) (s := .held) True.intro (fun t h => by cases t <;> exact h) h (fun t u n h => by cases t <;> first | exact h | exact absurd rfl n) W.lf W.kn
theorem Wk.sLeft (W : Wk K G0 H M ad C) (F : AdF ad p ra hd ga ma fr sd pd) {lb : Addr} {l : List Name} (h : NmsL (msk M H) lb l) : Wk K G0 (upd H p (insN K C.dx C.back ra hd ga ma lb)) M ad { C with la := lb, left := l } := by
  rw [← F.self]
  exact W.setS (C' := { C with la := lb, left := l }) (s := .self) True.intro (fun t h => by cases t <;> exact h) (by show _ = insN K C.dx C.back (ad .right) (ad .held) (ad .gone) (ad .made) lb; rw [F.right, F.held, F.gone, F.made]) (fun t u n h => by cases t <;> first | exact h | exact absurd rfl n) h W.kn
theorem Wk.sSt (W : Wk K G0 H M ad C) (hu : u ∈ C.kst) {vs : List V} {g : Option K34.W → List Name} (h : All2 (NmR (msk M H)) vs (g u)) (hg : ∀ o, o ≠ u → g o = C.sto o) : Wk K G0 (upd H (ad (.st u)) (.lst vs)) M ad { C with sto := g } :=
  W.setS (C' := { C with sto := g }) (s := .st u) hu (fun t h => by cases t <;> exact h) ⟨vs, rfl, h⟩ (fun t x n h => by
    cases t with
    | st o =>
      show LstN _ _ (g o)
      rw [hg o fun e => n (by rw [e])]
      exact h
    | _ => exact h) W.lf W.kn
theorem Wk.sPt (W : Wk K G0 H M ad C) (hu : u ∈ C.kpt) {vs : List V} {g : Option K34.W → List Name} (h : All2 (NmR (msk M H)) vs (g u)) (hg : ∀ o, o ≠ u → g o = C.puo o) : Wk K G0 (upd H (ad (.pt u)) (.lst vs)) M ad { C with puo := g } :=
  W.setS (C' := { C with puo := g }) (s := .pt u) hu (fun t h => by cases t <;> exact h) ⟨vs, rfl, h⟩ (fun t x n h => by
    cases t with
    | pt o =>
      show LstN _ _ (g o)
      rw [hg o fun e => n (by rw [e])]
      exact h
    | _ => exact h) W.lf W.kn
/-- what is no owned object stands in the rest -/
theorem Wk.tup (W : Wk K G0 H M ad C) {a : Addr} {xs : List V} (h : H a = some (.tup xs)) : msk M H a = some (.tup xs) := by
  rw [msk_out fun q => ?_]
  · exact h
  · obtain ⟨o, e, n⟩ := W.dom a q
    rw [h] at e
    exact n xs (Option.some.inj e).symm
theorem Wk.tie (W : Wk K G0 H M ad C) {v : V} {t : Tie} (h : TieR H v t) : TieR (msk M H) v t := by
  cases t with
  | same p => exact let ⟨t, e, x⟩ := h; ⟨t, e, W.tup x⟩
  | new ps => exact let ⟨t, pt, sd, lf, e, x, y⟩ := h; ⟨t, pt, sd, lf, e, W.tup x, W.tup y⟩
  | frm k => exact let ⟨t, e, x⟩ := h; ⟨t, e, W.tup x⟩
theorem Wk.end_ (W : Wk K G0 H M ad C) {v : V} {t : Nat × Option K34.W} (h : EndR H v t) : EndR (msk M H) v t := let ⟨t, e, x⟩ := h; ⟨t, e, W.tup x⟩
end
theorem heldGetO {G H1 : Hp} {hd pl : Addr} {o : HO} {held : W → List Name} (u : Option W) (hc : HeldC G o held) (e : H1 hd = some o) (s : Same G H1) (hpl : H1 pl = some (.lst [])) :
    ∃ o', DGet H1 hd (.str (wordS u)) o' ∧ ∃ b vs, o'.getD (.ref pl) = .ref b ∧ H1 b = some (.lst vs) ∧ (b ≠ pl → ∃ x, G b = some x) ∧ (b = pl → vs = []) ∧ All2 (NmR G) vs (stoO held u) := by
  obtain ⟨ks, f, rfl, n, q⟩ := hc
  refine ⟨_, DGet.k (k := keyW u) e, ?_⟩
  cases u with
  | none =>
    rw [dcw_not n.2]
    exact ⟨pl, [], rfl, hpl, fun z => absurd rfl z, fun _ => rfl, .nil⟩
  | some k =>
    by_cases h : some k ∈ ks
    · obtain ⟨b, e2, vs, x, y⟩ := (q k).1 h
      rw [dcw_in h]
      refine ⟨b, vs, e2, s _ _ x, fun _ => ⟨_, x⟩, fun z => ?_, y⟩
      rw [z] at x
      have := (s _ _ x).symm.trans hpl
      exact HO.lst.inj (Option.some.inj this)
    · rw [dcw_not h]
      refine ⟨pl, [], rfl, hpl, fun z => absurd rfl z, fun _ => rfl, ?_⟩
      show All2 _ _ (held k)
      rw [(q k).2 h]
      exact .nil
theorem heldPut {G : Hp} {ks : List (Option W)} {f : Option W → V} {held : W → List Name} {k : W} {q : Addr} {ns : List Name} (hc : HeldC G (.dK (dcw ks f)) held) (h : NmsL G q ns) :
    HeldC G (.dK (putK (dcw ks f) (keyW (some k)) (.ref q))) (fun j => if j = k then ns else held j) ∧ (dcw ks f).length < sizeLine := by
  obtain ⟨ks', f', e, n, c⟩ := hc
  have e : dcw ks f = dcw ks' f' := HO.dK.inj e
  rw [e]
  refine ⟨⟨insO ks' (some k), _, by rw [dcw_put], ⟨nodup_insO n.1, fun z => (mem_insO.mp z).elim n.2 fun z => by cases z⟩, fun j => ⟨fun hj => ?_, fun hj => ?_⟩⟩, by rw [dcw_len]; exact szt (Nat.le_trans (len5 n.1) (by decide))⟩
  · by_cases z : j = k
    · subst z
      exact ⟨q, by simp, by simpa using h⟩
    · obtain ⟨b, e1, e2⟩ := (c j).1 ((mem_insO.mp hj).resolve_right fun y => z (Option.some.inj y))
      exact ⟨b, by simp [z, e1], by simpa [z] using e2⟩
  · have z : j ≠ k := fun y => hj (mem_insO.mpr (.inr (by rw [y])))
    simp only [if_neg z]
    exact (c j).2 fun y => hj (mem_insO.mpr (.inl y))
end K34
set_option autoImplicit true
set_option Elab.async false
set_option linter.all false
set_option maxRecDepth 100000
set_option maxHeartbeats 4000000
namespace K34
open PySem PySem.Spec PyProof.Rows L2
variable {P : Program} {w : World} {K : PySem.W.Frag} {mg : Str → Option Value} {base : Heap}

/-! ### sizes within a row -/
structure Sz (g : Mid → Nat) : Prop where
  tie : ∀ R back many taken m t, g (tieStep R back many taken m t) ≤ g m + 1
  en : ∀ taken m e, g (endStep taken m e) ≤ g m + 1
  lf : ∀ m l, g { m with left := l } = g m
theorem fold_le {α β : Type} {f : β → α → β} {g : β → Nat} (h : ∀ m t, g (f m t) ≤ g m + 1) : ∀ (l : List α) (m : β), g (l.foldl f m) ≤ g m + l.length
  | [], m => Nat.le_refl _
  | t :: l, m => by
    have h1 := fold_le h l (f m t)
    have h2 := h m t
    rw [List.foldl_cons, List.length_cons]
    omega
theorem take_le {α : Type} (l : List α) (j : Nat) : (l.take j).length ≤ j := by rw [List.length_take]; omega
section
variable {g : Mid → Nat} {R : Nat} {back : Bool} {many : Nat} {s : Stch} {m : Mid}
theorem Sz.ties (z : Sz g) (j : Nat) : g (tiesTo R back many s m j) ≤ g m + j := by
  have h := fold_le (z.tie R back many (m.left.take s.takes)) (s.ties.take j) { m with left := m.left.drop s.takes }
  rw [z.lf m (m.left.drop s.takes)] at h
  have := take_le s.ties j
  exact Nat.le_trans h (by omega)
theorem Sz.ends (z : Sz g) (j : Nat) : g (endsTo R back many s m j) ≤ g m + 8 + j := by
  have h := fold_le (z.en (m.left.take s.takes)) (s.ends.take j) (tiesTo R back many s m s.ties.length)
  have h2 := z.ties (R := R) (back := back) (many := many) (s := s) (m := m) s.ties.length
  have h3 := ties_len s
  have := take_le s.ends j
  exact Nat.le_trans h (by omega)
theorem Sz.row (z : Sz g) {row : List Stch} (i : Nat) : g (rowTo R back many m row i) ≤ g m + 9 * i := by
  have h : ∀ (l : List Stch) (m : Mid), g (l.foldl (stStep R back many) m) ≤ g m + 9 * l.length := fun l => by
    induction l with
    | nil => intro m; exact Nat.le_refl _
    | cons s l ih =>
      intro m
      have h1 := ih (stStep R back many m s)
      have h2 := z.ends (R := R) (back := back) (many := many) (s := s) (m := m) s.ends.length
      have h3 := ends_len s
      have h4 : g (stStep R back many m s) = g (endsTo R back many s m s.ends.length) := rfl
      rw [List.foldl_cons, List.length_cons]
      omega
  have h1 := h (row.take i) m
  have h2 := take_le row i
  have h3 : g (rowTo R back many m row i) = g ((row.take i).foldl (stStep R back many) m) := rfl
  omega
end
theorem szRight : Sz fun m => m.right.length :=
  ⟨fun R back many taken m t => by cases t <;> simp [tieStep], fun taken m e => by obtain ⟨p, _ | k⟩ := e <;> simp [endStep], fun _ _ => rfl⟩
theorem szOff : Sz fun m => m.off.length :=
  ⟨fun R back many taken m t => by cases t <;> simp [tieStep], fun taken m e => by obtain ⟨p, _ | k⟩ := e <;> simp [endStep], fun _ _ => rfl⟩
theorem szFresh : Sz fun m => m.fresh.length :=
  ⟨fun R back many taken m t => by cases t <;> simp [tieStep], fun taken m e => by obtain ⟨p, _ | k⟩ := e <;> simp [endStep], fun _ _ => rfl⟩
theorem szPut (k : W) : Sz fun m => (m.put k).length :=
  ⟨fun R back many taken m t => by cases t <;> simp [tieStep], fun taken m e => by
    obtain ⟨p, _ | j⟩ := e
    · simp [endStep]
    · simp only [endStep]
      by_cases q : k = j
      · rw [if_pos q, List.length_append, q]; exact Nat.le_refl _
      · rw [if_neg q]; omega, fun _ _ => rfl⟩
theorem tie_at {s : Stch} {j : Nat} {t : Tie} (h : s.ties[j]? = some t) : (∀ p, t = .same p → p < s.takes) ∧ (∀ ps, t = .new ps → ps.length ≤ 8 ∧ (∀ q, q ∈ ps → q < s.takes) ∧ s.draws ≠ none) ∧ (∀ k, t = .frm k → s = .fetch k ∧ j = 0) := by
  cases hd : s.draws with
  | some pss =>
    have e1 : s.ties = pss.map Tie.new := by cases s <;> simp_all [Stch.draws, Stch.ties]
    rw [e1, List.getElem?_map] at h
    cases e2 : pss[j]? with
    | none => rw [e2] at h; cases h
    | some ps =>
      rw [e2] at h
      cases h
      refine ⟨fun p e => Tie.noConfusion e, fun qs e => ?_, fun k e => Tie.noConfusion e⟩
      cases e
      have hm := List.mem_of_getElem? e2
      refine ⟨?_, fun q hq => (draws_cover hd q).mp ⟨ps, hm, hq⟩, by simp⟩
      cases s with
      | plain f => obtain rfl : [[0]] = pss := Option.some.inj hd; obtain rfl := List.mem_singleton.mp hm; exact by decide
      | over => obtain rfl : [[]] = pss := Option.some.inj hd; obtain rfl := List.mem_singleton.mp hm; exact by decide
      | lean m r f =>
        obtain rfl : [if r then (List.range (m.val + 2)).reverse else List.range (m.val + 2)] = pss := Option.some.inj hd
        obtain rfl := List.mem_singleton.mp hm
        cases r <;> simp <;> omega
      | grow m f =>
        obtain rfl : List.replicate (m.val + 2) [0] = pss := Option.some.inj hd
        rw [List.eq_of_mem_replicate hm]; show 1 ≤ 8; decide
      | cross a b v f =>
        obtain rfl : ((List.range (b.val + 1)).map fun k => [a.val + 1 + k]) ++ ((List.range (a.val + 1)).map fun k => [k]) = pss := Option.some.inj hd
        rcases List.mem_append.mp hm with h1 | h1
        · obtain ⟨k, _, rfl⟩ := List.mem_map.mp h1; show 1 ≤ 8; decide
        · obtain ⟨k, _, rfl⟩ := List.mem_map.mp h1; show 1 ≤ 8; decide
      | slip => cases hd
      | off => cases hd
      | keep k => cases hd
      | fetch k => cases hd
  | none =>
    cases s with
    | slip =>
      rcases j with _ | j
      · cases h; exact ⟨fun p e => by rw [← Tie.same.inj e]; exact Nat.zero_lt_one, fun ps e => Tie.noConfusion e, fun k e => Tie.noConfusion e⟩
      · simp [Stch.ties] at h
    | off => simp [Stch.ties] at h
    | keep k => simp [Stch.ties] at h
    | fetch k =>
      rcases j with _ | j
      · cases h; exact ⟨fun p e => Tie.noConfusion e, fun ps e => Tie.noConfusion e, fun k e => ⟨by rw [Tie.frm.inj e], rfl⟩⟩
      · simp [Stch.ties] at h
    | plain f => cases hd
    | over => cases hd
    | lean a b c => cases hd
    | grow a b => cases hd
    | cross a b c d => cases hd
theorem end_at {s : Stch} {j p : Nat} {e : Option W} (h : s.ends[j]? = some (p, e)) : p < s.takes := by
  cases s with
  | off =>
    rcases j with _ | j
    · cases h; exact Nat.zero_lt_one
    · simp [Stch.ends] at h
  | keep k =>
    rcases j with _ | j
    · cases h; exact Nat.zero_lt_one
    · simp [Stch.ends] at h
  | _ => simp [Stch.ends] at h
theorem fresh_lt {rows : Rows} {bs : Name → Nat} {back : Bool} {many : Nat} {m : Mid} {s : Stch} {rest : List Stch} {j : Nat} {ps : List Nat} {R : Nat} (Q : Pre rows bs back many m (s :: rest)) (h : s.ties[j]? = some (.new ps)) :
    (tiesTo R back many s m j).fresh.length < many := by
  cases hd : s.draws with
  | none => exact absurd hd ((tie_at h).2.1 ps rfl).2.2
  | some pss =>
    have e1 : s.ties = pss.map Tie.new := by cases s <;> simp_all [Stch.draws, Stch.ties]
    have hn : s.news = pss.length := by unfold Stch.news; rw [hd]; rfl
    have hj : j < pss.length := by
      have := (List.getElem?_eq_some_iff.mp h).1
      rw [e1, List.length_map] at this
      exact this
    unfold tiesTo
    rw [e1, ← List.map_take, ties_draws]
    have hq := Q.nw
    rw [sumS_cons, hn] at hq
    simp only [List.length_append, List.length_map, List.length_take]
    omega
theorem tiesTo_succ {R : Nat} {back : Bool} {many : Nat} {s : Stch} {m : Mid} {j : Nat} {t : Tie} (h : s.ties[j]? = some t) : tiesTo R back many s m (j + 1) = tieStep R back many (m.left.take s.takes) (tiesTo R back many s m j) t :=
  foldl_take_succ _ _ h
theorem endsTo_succ {R : Nat} {back : Bool} {many : Nat} {s : Stch} {m : Mid} {j : Nat} {t : Nat × Option W} (h : s.ends[j]? = some t) : endsTo R back many s m (j + 1) = endStep (m.left.take s.takes) (endsTo R back many s m j) t :=
  foldl_take_succ _ _ h
theorem cut_take {vs : List V} {t : Nat} (h : t ≤ vs.length) : cutV vs none (some (t : Int)) = vs.take t := by
  unfold cutV
  have e1 : HT.sIx vs.length 0 none = 0 := HT.sIx_none _ _
  have e2 : HT.sIx vs.length vs.length (some (t : Int)) = min t vs.length := HT.sIx_nat _ _ t
  rw [e1, e2, List.drop_zero, Nat.min_eq_left h, Nat.sub_zero]
theorem cut_drop {vs : List V} {t : Nat} (h : t ≤ vs.length) : cutV vs (some (t : Int)) none = vs.drop t := by
  unfold cutV
  have e1 : HT.sIx vs.length vs.length none = vs.length := HT.sIx_none _ _
  have e2 : HT.sIx vs.length 0 (some (t : Int)) = min t vs.length := HT.sIx_nat _ _ t
  rw [e1, e2, Nat.min_eq_left h]
  exact List.take_of_length_le (by rw [List.length_drop]; exact Nat.le_refl _)
theorem All2.getD {R : V → Name → Prop} {vs : List V} {xs : List Name} (h : All2 R vs xs) {p : Nat} (hp : p < xs.length) : ∃ v, vs[p]? = some v ∧ R v (xs.getD p (0, 0)) ∧ vs.getD p .non = v := by
  obtain ⟨v, e, r⟩ := h.get (List.getElem?_eq_getElem hp)
  exact ⟨v, e, by rw [List.getD_eq_getElem?_getD, List.getElem?_eq_getElem hp]; exact r, by rw [List.getD_eq_getElem?_getD, e]; rfl⟩
theorem All2.atP {R : V → Name → Prop} {vs : List V} {xs : List Name} (h : All2 R vs xs) {ps : List Nat} (hp : ∀ q, q ∈ ps → q < xs.length) : All2 R (atP vs ps) (ps.map fun p => xs.getD p (0, 0)) := by
  refine ⟨by unfold K34.atP; rw [List.length_map, List.length_map], fun i v x e1 e2 => ?_⟩
  unfold K34.atP at e1
  rw [List.getElem?_map] at e1 e2
  cases q : ps[i]? with
  | none => rw [q] at e1; cases e1
  | some p =>
    rw [q] at e1 e2
    cases e1; cases e2
    obtain ⟨v, _, r, e⟩ := h.getD (hp p (List.mem_of_getElem? q))
    show R (vs.getD p .non) _
    rw [e]
    exact r

theorem fac_allA {α : Type} {R : V → α → Prop} {b : Bool} {vs : List V} {xs : List α} (h : All2 R vs xs) : All2 R (fac b vs) (fac b xs) := by
  cases b with
  | false => exact h
  | true => exact h.reverse
theorem sE {G0 H12 H13 : Hp} {M : List Addr} {ad : Sl → Addr} {C : Cn} {p ra hd ga ma fr sd pd q1 q2 : Addr} {o1 o2 o3 o4 : HO} (Wo : Wk K G0 H12 M ad C) (F : AdF ad p ra hd ga ma fr sd pd) (h1 : H12 p = some o1) (h2 : H12 hd = some o2) (h3 : H12 ga = some o3) (h4 : H12 ma = some o4)
    (n1 : H12 q1 = none) (n2 : H12 q2 = none) (hc : ∀ c, c ≠ p → c ≠ q1 → c ≠ q2 → H13 c = H12 c) : Same (msk M H12) (msk [p, q2, hd, ga, ma] H13) := fun b u e => by
  obtain ⟨g1, g2⟩ := msk_of e
  have m1 : p ∈ M := by rw [← F.self]; exact Wo.inM .self True.intro
  have m2 : hd ∈ M := by rw [← F.held]; exact Wo.inM .held True.intro
  have m3 : ga ∈ M := by rw [← F.gone]; exact Wo.inM .gone True.intro
  have m4 : ma ∈ M := by rw [← F.made]; exact Wo.inM .made True.intro
  have b1 : b ≠ p := fun e => g2 (by rw [e]; exact m1)
  have b2 : b ≠ hd := fun e => g2 (by rw [e]; exact m2)
  have b3 : b ≠ ga := fun e => g2 (by rw [e]; exact m3)
  have b4 : b ≠ ma := fun e => g2 (by rw [e]; exact m4)
  have b5 := ne_of_none g1 n1
  have b6 := ne_of_none g1 n2
  rw [msk_out (by simp [b1, b2, b3, b4, b6]), hc b b1 b5 b6]
  exact g1
/-! ### work -/
def puoO (m : Mid) : Option W → List Name
  | some k => m.put k
  | none => m.off
def cnOf (nd : Nd) (m : Mid) (kst kpt : List (Option W)) (dx la : Addr) : Cn := ⟨dx, la, nd.back, m.left, m.right, nd.held, nd.gone, nd.made, m.fresh, kst, kpt, stoO m.stock, puoO m, true⟩
def spWork (K : PySem.W.Frag) : Sp := fun vs H Q _ => ∃ (p sa : Addr) (A : NdA) (nd : Nd) (row : List Stch) (turn : Bool) (bs : Name → Nat), vs = [.ref p, .ref sa, .bl turn] ∧ NdR K H p A nd ∧ StL K (msk (A.own p) H) sa row ∧ row.length ≤ 5000 ∧
  nd.right.length ≤ 10000 ∧ nd.gone.length ≤ 10000 ∧ nd.made.length ≤ 10000 ∧ Fits nd row turn ∧ Pre nd.made bs nd.back (manyIn row) (startMid nd row) row ∧
  ∀ H' A' i, Same (msk (A.own p) H) (msk (A'.own p) H') → NdR K H' p A' (work nd row) → Q (.int i) H'
theorem sc_Needles_work : FnScope ["self", "stitches", "turn", "many", "fresh", "stock", "put", "keeper", "one", "taken", "tie", "p", "word"] ["self", "stitches", "turn"] (defScope s_Needles_work) := ⟨rfl, rfl, rfl, by decide +kernel, rfl, by decide +kernel, by decide +kernel⟩
theorem ok_work (Z : Zt K mg) : CalM P w K mg base (He.ga K "Needles") "work" 4 ["self", "stitches", "turn"] (spWork K) := by
  obtain ⟨fd, F⟩ := Z.du_Needles_work
  have c_fetched := ok_fetched (P := P) (w := w) (base := base) Z
  have c_put_away := ok_put_away (P := P) (w := w) (base := base) Z
  have c_many_new := ok_many_new (P := P) (w := w) (base := base) Z
  have c_fit := ok_fit (P := P) (w := w) (base := base) Z
  have c_facing := ok_facing (P := P) (w := w) (base := base) Z
  have c_named := ok_named (P := P) (w := w) (base := base) Z
  have c_seen := ok_seen (P := P) (w := w) (base := base) Z
  have c_exchange := ok_exchange (P := P) (w := w) (base := base) Z
  have c_takes : ∀ st : Stch, CalM P w K mg base (He.ga K (clsS st)) "takes" 1 ["self"] (spSTakes K st) := c_takes Z
  have c_ties : ∀ st : Stch, CalM P w K mg base (He.ga K (clsS st)) "ties" 1 ["self"] (spSTies K st) := c_ties Z
  have c_ends : ∀ st : Stch, CalM P w K mg base (He.ga K (clsS st)) "ends" 1 ["self"] (spSEnds K st) := c_ends Z
  obtain ⟨ds, hv, hb⟩ := FunD.binds1 (ps := ["self", "stitches", "turn"]) F 3 1 (by simp [He.DefD.dvs]; decide) rfl fun T kV doc pm an cdv ct us its h1 h2 => by
    match us, its, h1, h2 with
    | [a, b, c], [d], _, _ => exact ⟨_, rfl, rfl⟩
  have hd0 : ds = [] := by cases hv; rfl
  rw [hd0] at hb
  refine ⟨Z.cl_Needles, Z.me_Needles_work, fd, F.ok sc_Needles_work (fun vs H Q E h => ?_) (fun cdv A outer s H vs Q E hr h => ?_), hb⟩
  · obtain ⟨_, _, _, _, _, _, _, rfl, _⟩ := h
    rfl
  · obtain ⟨p, sa, ⟨dx, ra, hd, ga, ma, la⟩, nd, row, turn, bs, rfl, N, hrow, hl, z1, z2, z3, ft, pre, k⟩ := h
    have hu := hu_of hr
    refine ⟨_, PSs.nox (pss_cons (ps_expr (pe_calm c_fit (hr.mono (by decide)) (pv 0) (pa_cons (pv 1) (pa_cons (pv 2) pa_nil))))
      (pss_cons (ps_set (i := 3) sc_Needles_work.nd rfl (Or.inl rfl) (pe_cal c_many_new (hr.mono (by decide)) (by rfl) (pa_cons (pv 1) pa_nil)))
      (pss_cons (ps_set (i := 4) sc_Needles_work.nd rfl (Or.inl rfl) (pe_lst pa_nil))
      (pss_cons (ps_set (i := 5) sc_Needles_work.nd rfl (Or.inl rfl) pe_dnewK)
      (pss_cons (ps_set (i := 6) sc_Needles_work.nd rfl (Or.inl rfl) (pe_disp (pps_cons pe_str (pe_lst pa_nil) pps_nil) (by rfl) (by rfl) (fun z => by cases z) (by decide)))
      (pss_cons (ps_for PassesOwn.never rfl (pi_list (pe_op op_cat (pe_cal c_fetched (hr.mono (by decide)) (by rfl) (pa_cons (pv 1) pa_nil)) (pe_cal c_put_away (hr.mono (by decide)) (by rfl) (pa_cons (pv 1) pa_nil)))) (pg_name (i := 7) sc_Needles_work.nd rfl (Or.inl rfl)) (pss_cons (ps_dput hu (pv 5) (pv 7) (pe_calm c_facing (hr.mono (by decide)) (pv 0) (pa_cons (pe_dget2 hu (pe_fld (pv 0) rfl) (pv 7) (pe_lst pa_nil) ⟨rfl, rfl, rfl, rfl⟩) pa_nil)) rfl)
      (pss_one (ps_dput hu (pv 6) (pv 7) (pe_lst pa_nil) rfl))))
      (pss_cons (ps_for PassesOwn.never rfl (pi_list (pv 1)) (pg_name (i := 8) sc_Needles_work.nd rfl (Or.inl rfl)) (pss_cons (ps_set (i := 9) sc_Needles_work.nd rfl (Or.inl rfl) (pe_slice sl_list (pe_fld (pv 0) rfl) po_none (po_some (pe_any fun st : Stch => pe_calm0 (c_takes st) (hr.mono (by decide)) (pv 8)))))
      (pss_cons (ps_fld (pv 0) (pe_slice sl_list (pe_fld (pv 0) rfl) (po_some (pe_any fun st : Stch => pe_calm0 (c_takes st) (hr.mono (by decide)) (pv 8))) po_none) rfl)
      (pss_cons (ps_for PassesOwn.never rfl (pi_list (pe_any fun st : Stch => pe_calm0 (c_ties st) (hr.mono (by decide)) (pv 8))) (pg_name (i := 10) sc_Needles_work.nd rfl (Or.inl rfl)) (pss_one (ps_if (pt_cmpR op_eq (pe_ix ix_tup (pv 10) pe_int (fun _ _ => rfl)) pe_str (nomark _)) (pss_one (ps_expr (pe_bm PySem.F.plainAttrs_list PySem.F.slot_list_append PySem.F.type_list_append mt_append (pe_fld (pv 0) rfl) (pa_cons (pe_ix ix_list (pv 9) (pe_ix ix_tup (pv 10) pe_int (fun _ _ => rfl)) (fun _ _ => rfl)) pa_nil)))) (pss_one (ps_if (pt_cmpR op_eq (pe_ix ix_tup (pv 10) pe_int (fun _ _ => rfl)) pe_str (nomark _)) (pss_one (ps_expr (pe_bm PySem.F.plainAttrs_list PySem.F.slot_list_append PySem.F.type_list_append mt_append (pe_fld (pv 0) rfl) (pa_cons (pe_bm PySem.F.plainAttrs_list PySem.F.slot_list_pop PySem.F.type_list_pop mt_popAt (pe_dget hu (pv 5) (pe_ix ix_tup (pv 10) pe_int (fun _ _ => rfl)) (fun _ _ => rfl)) (pa_cons pe_int pa_nil)) pa_nil)))) (pss_cons (ps_expr (pe_bm PySem.F.plainAttrs_list PySem.F.slot_list_append PySem.F.type_list_append mt_append (pe_fld (pv 0) rfl) (pa_cons (pe_calm c_named (hr.mono (by decide)) (pv 0) (pa_cons (pe_callB call_len_seq (by rfl) Z.fr_len PySem.boot_len (pa_cons (pv 4) pa_nil)) (pa_cons (pv 3) pa_nil))) pa_nil)))
      (pss_one (ps_expr (pe_bm PySem.F.plainAttrs_list PySem.F.slot_list_append PySem.F.type_list_append mt_append (pv 4) (pa_cons (pe_calm c_seen (hr.mono (by decide)) (pv 0) (pa_cons (pv 10) (pa_cons (pv 9) pa_nil))) pa_nil))))))))))
      (pss_one (ps_for PassesOwn.never rfl (pi_list (pe_any fun st : Stch => pe_calm0 (c_ends st) (hr.mono (by decide)) (pv 8))) (pg_tup (by rfl) (pgs_cons (pg_name (i := 11) sc_Needles_work.nd rfl (Or.inl rfl)) (pgs_cons (pg_name (i := 12) sc_Needles_work.nd rfl (Or.inl rfl)) pgs_nil))) (pss_one (ps_expr (pe_bm PySem.F.plainAttrs_list PySem.F.slot_list_append PySem.F.type_list_append mt_append (pe_dget hu (pv 6) (pv 12) (fun _ _ => rfl)) (pa_cons (pe_ix ix_list (pv 9) (pv 11) (fun _ _ => rfl)) pa_nil))))))))))
      (pss_cons (ps_expr (pe_bm PySem.F.plainAttrs_list PySem.F.slot_list_append PySem.F.type_list_append mt_append (pe_fld (pv 0) rfl) (pa_cons (pe_calm c_facing (hr.mono (by decide)) (pv 0) (pa_cons (pv 4) pa_nil)) pa_nil)))
      (pss_cons (ps_expr (pe_bm PySem.F.plainAttrs_list PySem.F.slot_list_extend PySem.F.type_list_extend mt_extend (pe_fld (pv 0) rfl) (pa_cons (pe_dpop1 (pv 6) pe_str ⟨rfl, rfl, rfl, rfl⟩) pa_nil)))
      (pss_cons (ps_lock (ps_for PassesOwn.never rfl (pi_keys (pv 6)) (pg_name (i := 7) sc_Needles_work.nd rfl (Or.inl rfl)) (pss_one (ps_dput hu (pe_fld (pv 0) rfl) (pv 7) (pe_calm c_facing (hr.mono (by decide)) (pv 0) (pa_cons (pe_dget hu (pv 6) (pv 7) (fun _ _ => rfl)) pa_nil)) rfl))))
      (pss_cons (ps_expr (pe_calm0 c_exchange (hr.mono (by decide)) (pv 0)))
      (pss_one (ps_ret (pe_op op_add (pe_callB call_len_seq (by rfl) Z.fr_len PySem.boot_len (pa_cons (pe_fld (pv 0) rfl) pa_nil)) (pe_callB call_len_seq (by rfl) Z.fr_len PySem.boot_len (pa_cons (pe_fld (pv 0) rfl) pa_nil)))))))))))))))), ?_⟩
    have hl' : row.length ≤ 100000 := by omega
    refine ⟨_, rfl, p, dx, _, rfl, N.ob, rfl, _, rfl, _, rfl, p, sa, ⟨dx, ra, hd, ga, ma, la⟩, nd, row, turn, rfl, N, hrow.mono msk_same, hl', ft, fun H1 s1 => ?_⟩
    refine ⟨_, rfl, sa, row, rfl, hrow.mono (msk_same.trans s1), hl', fun H2 s2 => ?_⟩
    refine ⟨Nat.zero_le _, fun fr hfr sd hsd pd hpd => ⟨Nat.zero_le _, fun p0 hp0 => ?_⟩⟩
    refine ⟨sm_new hp0 _ _ upd_same, [(keyW none, .ref p0)], rfl, (by show 1 ≤ 15; decide), ?_⟩
    have s12 := s1.trans s2
    have sa1 := s12.trans (sm_new (o := .lst []) hfr)
    have sa2 := sa1.trans (sm_new (o := .dK []) hsd)
    have sa3 := sa2.trans (sm_new (o := .dK []) hpd)
    have sa4 := sa3.trans (sm_new (o := .lst []) hp0)
    have f1 := s12.free hfr
    have f2 := sa1.free hsd
    have f3 := sa2.free hpd
    have f4 := sa3.free hp0
    have sa5 := sm_upd (o := .dK (dcw [none] fun _ => .ref p0)) sa4 f3
    have d1 : sd ≠ fr := fun e => by rw [e, upd_same] at hsd; cases hsd
    have d2 : pd ≠ sd := fun e => by rw [e, upd_same] at hpd; cases hpd
    have d3 : pd ≠ fr := fun e => by rw [e, sm_new hsd _ _ upd_same] at hpd; cases hpd
    have d4 : p0 ≠ pd := fun e => by rw [e, upd_same] at hp0; cases hp0
    have d5 : p0 ≠ sd := fun e => by rw [e, sm_new hpd _ _ upd_same] at hp0; cases hp0
    have d6 : p0 ≠ fr := fun e => by rw [e, sm_new hpd _ _ (sm_new hsd _ _ upd_same)] at hp0; cases hp0
    obtain ⟨M0, ad0, W0, F0, own0⟩ := Wk.start (H' := upd (upd (upd (upd (upd H2 fr (.lst [])) sd (.dK [])) pd (.dK [])) p0 (.lst [])) pd (.dK (dcw [none] fun _ => .ref p0))) (fr := fr) (sd := sd) (pd := pd) (p0 := p0) N sa5
      (by rw [upd_ne (Ne.symm d3)]; exact sm_new hp0 _ _ (sm_new hpd _ _ (sm_new hsd _ _ upd_same))) (by rw [upd_ne (Ne.symm d2)]; exact sm_new hp0 _ _ (sm_new hpd _ _ upd_same)) upd_same (by rw [upd_ne d4, upd_same]) f1 f2 f3 f4
      (by simp [d1.symm, d2.symm, d3.symm, d4.symm, d5.symm, d6.symm])
    rw [show mergeK [] [(keyW none, V.ref p0)] = dcw [none] (fun _ => .ref p0) from rfl]
    generalize upd (upd (upd (upd (upd H2 fr (.lst [])) sd (.dK [])) pd (.dK [])) p0 (.lst [])) pd (.dK (dcw [none] fun _ => .ref p0)) = H3 at W0 sa5 ⊢
    have G3 : Same (msk (NdA.own ⟨dx, ra, hd, ga, ma, la⟩ p) H) H3 := W0.sm.trans msk_same
    refine ⟨_, rfl, sa, row, rfl, hrow.mono G3, hl', fun H4 fa s4 f4' h4 => ?_⟩
    refine ⟨_, rfl, sa, row, rfl, hrow.mono (G3.trans s4), hl', fun H5 pa s5 f5 h5 => ?_⟩
    have efw : ((fetL row).map fun k => V.str k.str) ++ ((putL row).map fun k => V.str (wordS k)) = ((fetL row).map some ++ putL row).map fun o => V.str (wordS o) := by
      rw [List.map_append, List.map_map]; rfl
    have lfet := flat_len fet_len row
    have lput := put_len row
    have lw : ((fetL row).map some ++ putL row).length ≤ 10000 := by
      rw [List.length_append, List.length_map]
      have : (fetL row).length ≤ row.length := lfet
      omega
    generalize hws : (fetL row).map some ++ putL row = words at efw lw
    refine ⟨fa, pa, _, _, rfl, rfl, s5 _ _ h4, h5, ?_, fun c hc => ?_⟩
    · rw [← List.length_append, efw, List.length_map]; exact szl (by omega)
    rw [efw]
    have s35 := s4.trans s5
    have s6 := s35.trans (sm_new (o := .lst (words.map fun o => V.str (wordS o))) hc)
    have W1 := W0.grow s6
    have hcM : c ∉ M0 := (W0.grow s35).out hc
    -- the list of words stands in the rest
    have W2 := W1.re
    have hcG : (msk M0 (upd H5 c (.lst (words.map fun o => V.str (wordS o))))) c = some (.lst (words.map fun o => V.str (wordS o))) := by rw [msk_out hcM, upd_same]
    have sG2 := W1.sm
    generalize hG2 : msk M0 (upd H5 c (.lst (words.map fun o => V.str (wordS o)))) = G2 at W2 hcG sG2
    clear hG2
    refine ⟨c, rfl, ⟨_, SqL.of upd_same⟩, for_list (K := K) (a := c) (xs := words.map fun o => V.str (wordS o)) (fun i σ H' => ∃ (b : Option V) (M : List Addr) (ad : Sl → Addr) (kst kpt : List (Option W)),
      σ = [some (.ref p), some (.ref sa), some (.bl turn), some (.int (manyIn row : Int)), some (.ref fr), some (.ref sd), some (.ref pd), b, none, none, none, none, none] ∧
      Wk K G2 H' M ad ⟨dx, la, nd.back, nd.left, nd.right, nd.held, nd.gone, nd.made, [], kst, kpt, fun o => fac nd.back (stoO nd.held o), fun _ => [], true⟩ ∧ AdF ad p ra hd ga ma fr sd pd ∧ (∀ a, a ∈ NdA.own ⟨dx, ra, hd, ga, ma, la⟩ p → a ∈ M) ∧
      (∀ o, o ∈ kst ↔ o ∈ words.take i) ∧ (∀ o, o ∈ kpt ↔ o = none ∨ o ∈ words.take i)) ?_ ?_ ?_ ?_⟩
    · exact ⟨none, M0, ad0, [], [none], rfl, W2, F0, own0, fun o => by simp, fun o => by simp⟩
    · rintro i σ H' hi ⟨b, M, ad, kst, kpt, rfl, W, F, ow, m1, m2⟩
      exact SqL.of ((W.sm.trans msk_same) _ _ hcG)
    · rintro i x σ H' hx ⟨b, M, ad, kst, kpt, rfl, W, F, ow, m1, m2⟩
      rw [List.getElem?_map] at hx
      cases eo : words[i]? with
      | none => rw [eo] at hx; cases hx
      | some o =>
        rw [eo] at hx
        cases hx
        obtain ⟨ho, hho, hhc⟩ := W.gHeld F
        have hob := W.gObj F
        refine ⟨_, rfl, p, dx, _, rfl, hob, rfl, _, rfl, p, _, dx, _, _, rfl, hob, Z.cl_Needles, Z.na_Needles_held, rfl, hd, rfl, heldIs hhc hho, _, rfl, Nat.zero_le _, fun pl hpl => ?_⟩
        have s8 := sm_new (o := .lst []) hpl
        have W3 := W.grow s8
        obtain ⟨o', hg, bb, bvs, hb1, hb2, _, _, hbA⟩ := heldGetO (pl := pl) o hhc (s8 _ _ hho) (msk_same.trans s8) upd_same
        refine ⟨o', hg, p, bb, dx, ra, hd, ga, ma, la, nd.back, bvs, by rw [hb1]; rfl, W3.gObj F, hb2, fun q hq => ?_⟩
        have W4 := W3.newSt (u := o) (vs := fac nd.back bvs) hq (fac_all (hbA.mono fun _ _ => NmR.mono (msk_mono s8)))
        have hst := W3.gStock F
        rw [F.stock] at W4
        refine ⟨_, rfl, _, rfl, sd, _, rfl, DPut.k (k := keyW o) (sm_new hq _ _ hst) (by rw [dcw_len]; exact szt (Nat.le_trans (len5 W.kn.1) (by decide))), ?_⟩
        refine ⟨Nat.zero_le _, fun q2 hq2 => ?_⟩
        have F4 : AdF (fun s => if s = Sl.st o then q else ad s) p ra hd ga ma fr sd pd := ⟨F.self, F.right, F.held, F.gone, F.made, F.fresh, F.stock, F.put⟩
        have hpt := W4.gPut F4 rfl
        have W5 := W4.newPt (u := o) (vs := []) rfl hq2 .nil
        rw [F4.put] at W5
        refine ⟨_, rfl, _, rfl, pd, _, rfl, DPut.k (k := keyW o) (sm_new hq2 _ _ hpt) (by rw [dcw_len]; exact szt (Nat.le_trans (len5 W.kn.2) (by decide))), ?_⟩
        refine ⟨_, _, _, insO kst o, insO kpt o, rfl, W5, ⟨F.self, F.right, F.held, F.gone, F.made, F.fresh, F.stock, F.put⟩, fun a ha => List.mem_cons_of_mem _ (List.mem_cons_of_mem _ (ow a ha)), fun o2 => ?_, fun o2 => ?_⟩
        · rw [mem_insO, m1, take_snoc eo, List.mem_append, List.mem_singleton]
        · rw [mem_insO, m2, take_snoc eo, List.mem_append, List.mem_singleton, or_assoc]
    · rintro σ H6 ⟨b7, M, ad, kst, kpt, rfl, W, F, ow, m1, m2⟩
      have e5 : words.take (words.map fun o => V.str (wordS o)).length = words := List.take_of_length_le (by rw [List.length_map]; exact Nat.le_refl _)
      rw [e5] at m1 m2
      have hnm : ∀ j : K34.W, namedIn row j = true ↔ some j ∈ words := fun j => by
        rw [named_iff, ← hws, List.mem_append, List.mem_map]
        refine or_congr ⟨fun h => ⟨j, h, rfl⟩, ?_⟩ Iff.rfl
        rintro ⟨j', h, e⟩
        rw [← Option.some.inj e]; exact h
      have W' : Wk K G2 H6 M ad (cnOf nd (startMid nd row) kst kpt dx la) := by
        refine W.as (C' := cnOf nd (startMid nd row) kst kpt dx la) (fun t h => by cases t <;> exact h) (fun t x h q => ?_) ⟨rfl, rfl⟩ W.kn
        cases t with
        | st u =>
          cases u with
          | none =>
            have q : LstN _ x (fac nd.back []) := q
            show LstN _ x []
            cases hb2 : nd.back <;> rw [hb2] at q <;> exact q
          | some j =>
            have hj := (hnm j).mpr ((m1 _).mp h)
            have q : LstN _ x (fac nd.back (nd.held j)) := q
            show LstN _ x (if namedIn row j = true then fac nd.back (nd.held j) else [])
            rw [if_pos hj]
            exact q
        | pt u => cases u <;> exact q
        | _ => exact q
      have hrowG := hrow.mono sG2
      obtain ⟨svs, hsv, hsA⟩ := hrowG
      have hR : ∀ H', Same G2 H' → SqL K H' sa svs := fun H' s => SqL.of (s _ _ hsv)
      refine ⟨_, rfl, sa, rfl, ⟨_, hR _ (W.sm.trans msk_same)⟩, for_list (K := K) (a := sa) (xs := svs) (fun i σ H' => ∃ (b7 b8 b9 b10 b11 b12 : Option V) (la' : Addr),
        σ = [some (.ref p), some (.ref sa), some (.bl turn), some (.int (manyIn row : Int)), some (.ref fr), some (.ref sd), some (.ref pd), b7, b8, b9, b10, b11, b12] ∧
        Wk K G2 H' M ad (cnOf nd (rowTo nd.made.length nd.back (manyIn row) (startMid nd row) row i) kst kpt dx la')) ?_ ?_ ?_ ?_⟩
      · exact ⟨_, _, _, _, _, _, la, rfl, W'⟩
      · rintro i σ H' hi ⟨b7, b8, b9, b10, b11, b12, la', rfl, X⟩
        exact hR _ (X.sm.trans msk_same)
      · rintro i x σ H' hx ⟨b7, b8, b9, b10, b11, b12, la', rfl, X⟩
        obtain ⟨s, es, r⟩ := hsA.getV hx
        have hi := (List.getElem?_eq_some_iff.mp es).1
        have pr := pre.to i (Nat.le_of_lt hi)
        rw [List.drop_eq_getElem_cons hi, (List.getElem?_eq_some_iff.mp es).2] at pr
        rw [rowTo_succ es]
        have zr := szRight.row (R := nd.made.length) (back := nd.back) (many := manyIn row) (m := startMid nd row) (row := row) i
        have zo := szOff.row (R := nd.made.length) (back := nd.back) (many := manyIn row) (m := startMid nd row) (row := row) i
        have zf := szFresh.row (R := nd.made.length) (back := nd.back) (many := manyIn row) (m := startMid nd row) (row := row) i
        have zp := fun j => (szPut j).row (R := nd.made.length) (back := nd.back) (many := manyIn row) (m := startMid nd row) (row := row) i
        have zr0 : (startMid nd row).right.length = nd.right.length := rfl
        have zo0 : (startMid nd row).off.length = 0 := rfl
        have zf0 : (startMid nd row).fresh.length = 0 := rfl
        have zp0 : ∀ j, ((startMid nd row).put j).length = 0 := fun _ => rfl
        rw [zr0] at zr
        rw [zo0] at zo
        rw [zf0] at zf
        have zp : ∀ j, ((rowTo nd.made.length nd.back (manyIn row) (startMid nd row) row i).put j).length ≤ 0 + 9 * i := fun j => by have := zp j; rw [zp0] at this; exact this
        generalize rowTo nd.made.length nd.back (manyIn row) (startMid nd row) row i = m at X pr zr zo zf zp ⊢
        have rX := fun H' (s : Same G2 H') => r.mono s
        obtain ⟨a, dxs, rfl, ha⟩ := r
        have hm : s ∈ row := List.mem_of_getElem? es
        have sX := X.sm.trans (msk_same (M := M))
        obtain ⟨lvs, hlf, hlA⟩ := X.lf
        have hlf' := (msk_of hlf).1
        have htk : s.takes ≤ m.left.length := by have := pr.tk; rw [sumS_cons] at this; omega
        have htv : s.takes ≤ lvs.length := by rw [hlA.1]; exact htk
        have hob := X.gObj F
        -- what is taken
        refine ⟨_, rfl, p, _, dx, _, _, rfl, hob, Z.cl_Needles, Z.na_Needles_left, rfl, s, _, rfl, a, dxs, _, rfl, sX _ _ ha, (fld_no s).1, .ref a, rfl, rX _ sX, (s.takes : Int), rfl, la', lvs, rfl, SqL.of hlf', fun ta hta => ?_⟩
        rw [cut_take htv]
        have s1 := sm_new (o := .lst (lvs.take s.takes)) hta
        have X1 := X.grow s1
        have hob1 := X1.gObj F
        refine ⟨_, rfl, p, _, dx, _, _, rfl, hob1, Z.cl_Needles, Z.na_Needles_left, rfl, s, _, rfl, a, dxs, _, rfl, (sX.trans s1) _ _ ha, (fld_no s).1, .ref a, rfl, rX _ (sX.trans s1), (s.takes : Int), rfl, la', lvs, rfl, SqL.of (s1 _ _ hlf'), fun lb hlb => ?_⟩
        rw [cut_drop htv]
        have s2 := sm_new (o := .lst (lvs.drop s.takes)) hlb
        have X2 := X1.grow s2
        have htaM := X.out hta
        have hlbM := X1.out hlb
        have s12 := s1.trans s2
        have eT : NmsL (msk M (upd (upd H' ta (.lst (lvs.take s.takes))) lb (.lst (lvs.drop s.takes)))) lb (m.left.drop s.takes) := ⟨_, by rw [msk_out hlbM, upd_same], (hlA.drop s.takes).mono fun _ _ => NmR.mono (msk_mono s12)⟩
        have eA : NmsL (msk M (upd (upd H' ta (.lst (lvs.take s.takes))) lb (.lst (lvs.drop s.takes)))) ta (m.left.take s.takes) := ⟨_, by rw [msk_out htaM]; exact s2 _ _ upd_same, (hlA.take s.takes).mono fun _ _ => NmR.mono (msk_mono s12)⟩
        have hob2 : (upd (upd H' ta (.lst (lvs.take s.takes))) lb (.lst (lvs.drop s.takes))) p = some (.ins (He.ga K "Needles") dx (ndF nd.back ra hd ga ma la')) := X2.gObj F
        refine ⟨_, rfl, p, _, dx, _, rfl, hob2, Z.cl_Needles, Z.na_Needles_left, (by show 7 < 1000; decide), ?_⟩
        rw [pF_left]
        have X3 := X2.sLeft F eT
        have X3 : Wk K G2 (upd (upd (upd H' ta (.lst (lvs.take s.takes))) lb (.lst (lvs.drop s.takes))) p (.ins (He.ga K "Needles") dx (ndF nd.back ra hd ga ma lb))) M ad (cnOf nd { m with left := m.left.drop s.takes } kst kpt dx lb) := X3
        have eA3 : NmsL (msk M (upd (upd (upd H' ta (.lst (lvs.take s.takes))) lb (.lst (lvs.drop s.takes))) p (.ins (He.ga K "Needles") dx (ndF nd.back ra hd ga ma lb)))) ta (m.left.take s.takes) := by
          rw [msk_upd (by rw [← F.self]; exact X3.inM .self True.intro)]
          exact eA
        generalize hH7 : upd (upd (upd H' ta (.lst (lvs.take s.takes))) lb (.lst (lvs.drop s.takes))) p (.ins (He.ga K "Needles") dx (ndF nd.back ra hd ga ma lb)) = H7 at X3 eA3 ⊢
        have hH8 : upd (upd (upd H' ta (.lst (lvs.take s.takes))) lb (.lst (lvs.drop s.takes))) p (insN K dx nd.back ra hd ga ma lb) = H7 := hH7
        clear hH7
        -- the ties
        have sX3 := X3.sm.trans (msk_same (M := M))
        refine ⟨s, _, rfl, a, dxs, _, rfl, sX3 _ _ ha, (fld_no s).2.1, .ref a, rfl, rX _ sX3, fun H8 tl s8 f8 ⟨tvs, htl, htA⟩ => ?_⟩
        have X4 := X3.grow s8
        have X5 := X4.re
        have htl5 : (msk M H8) tl = some (.lst tvs) := by rw [msk_out (X3.out f8)]; exact htl
        have htA5 : All2 (TieR (msk M H8)) tvs s.ties := htA.mono fun _ _ => X4.tie
        have eA5 := eA3.mono (msk_mono s8)
        have sG8 := X4.sm
        generalize hG8 : msk M H8 = G8 at X5 htl5 htA5 eA5 sG8
        clear hG8
        obtain ⟨avs, hta8, haA⟩ := eA5
        have hlen : (m.left.take s.takes).length = s.takes := by rw [List.length_take]; omega
        refine ⟨tl, rfl, ⟨_, SqL.of htl⟩, for_list (K := K) (a := tl) (xs := tvs) (fun j σ H' => ∃ (b10 : Option V),
          σ = [some (.ref p), some (.ref sa), some (.bl turn), some (.int (manyIn row : Int)), some (.ref fr), some (.ref sd), some (.ref pd), b7, some (.ref a), some (.ref ta), b10, b11, b12] ∧
          Wk K G8 H' M ad (cnOf nd (tiesTo nd.made.length nd.back (manyIn row) s m j) kst kpt dx lb)) ?_ ?_ ?_ ?_⟩
        · exact ⟨_, rfl, X5⟩
        · rintro j σ H' hj ⟨b10, rfl, Y⟩
          exact SqL.of ((Y.sm.trans msk_same) _ _ htl5)
        · rintro j x σ H9 hx ⟨b10, rfl, Y⟩
          obtain ⟨t, et, rt⟩ := htA5.getV hx
          have sY := Y.sm.trans (msk_same (M := M))
          have rt9 := rt.mono sY
          rw [tiesTo_succ et]
          have zj := (List.getElem?_eq_some_iff.mp et).1
          have zt8 := ties_len s
          have ztr := szRight.ties (R := nd.made.length) (back := nd.back) (many := manyIn row) (s := s) (m := m) j
          have ztf := szFresh.ties (R := nd.made.length) (back := nd.back) (many := manyIn row) (s := s) (m := m) j
          have tat := tie_at et
          have flt := fun ps (e : t = .new ps) => fresh_lt (R := nd.made.length) (j := j) (ps := ps) pr (by rw [← e]; exact et)
          have stk : ∀ k, t = .frm k → (tiesTo nd.made.length nd.back (manyIn row) s m j).stock k = m.stock k := fun k e => by
            obtain ⟨rfl, rfl⟩ := tat.2.2 k e
            rfl
          generalize tiesTo nd.made.length nd.back (manyIn row) s m j = m' at Y ztr ztf flt stk ⊢
          have hob9 : H9 p = some (.ins (He.ga K "Needles") dx (ndF nd.back ra hd ga ma lb)) := Y.gObj F
          obtain ⟨rvs, hra, hrA⟩ := Y.gRight F
          have lr : rvs.length < sizeLine := by
            rw [hrA.1]
            have e0 : (cnOf nd m' kst kpt dx lb).right = m'.right := rfl
            rw [e0]
            exact szt (by omega)
          have hta9 := sY _ _ hta8
          cases t with
          | same q =>
            obtain ⟨t0, rfl, ht0⟩ := rt9
            obtain ⟨v, ev, rv, _⟩ := haA.getD (p := q) (by rw [hlen]; exact tat.1 q rfl)
            refine ⟨_, rfl, t0, _, 0, _, rfl, rfl, SqT.of ht0, rfl, rfl, _, rfl, iteU (by decide +kernel) ⟨_, rfl, p, _, dx, _, _, rfl, hob9, Z.cl_Needles, Z.na_Needles_right, rfl, .inl ⟨rfl, _, SqL.of hra⟩, _, rfl, _, rfl, t0, _, 1, _, rfl, rfl, SqT.of ht0, rfl, ta, avs, _, v, rfl, rfl, SqL.of hta9, at_of (j := q) rfl ev, ra, rvs, v, rfl, rfl, hra, lr, _, rfl, ?_⟩⟩
            exact Y.sRight F (hrA.snoc (rv.mono Y.sm))
          | frm k =>
            obtain ⟨t0, rfl, ht0⟩ := rt9
            obtain ⟨rfl, rfl⟩ := tat.2.2 k rfl
            have hin : some k ∈ kst := (m1 _).mpr ((hnm k).mp (named_iff.mpr (.inl (List.mem_flatMap.mpr ⟨_, hm, List.mem_singleton.mpr rfl⟩))))
            have hsd9 : H9 sd = some (.dK (dcw kst fun u => .ref (ad (.st u)))) := Y.gStock F
            have hg : DGet H9 sd (.str k.str) (some (.ref (ad (.st (some k))))) := by
              have := DGet.k (k := keyW (some k)) hsd9
              rw [dcw_in hin] at this
              exact this
            obtain ⟨xs, hst, hsA⟩ := Y.gSt hin
            have e1 : (cnOf nd m' kst kpt dx lb).sto (some k) = m.stock k := stk k rfl
            rw [e1] at hsA
            have hfe := pr.fe k
            rw [sumS_cons, show Stch.isF k (.fetch k) = 1 from if_pos rfl] at hfe
            cases es2 : m.stock k with
            | nil => rw [es2, List.length_nil] at hfe; omega
            | cons n0 r0 =>
              rw [es2] at hsA
              obtain ⟨v, ev, rv⟩ := hsA.get (i := 0) (x := n0) rfl
              have e2 : xs.eraseIdx 0 = xs.drop 1 := by cases xs <;> rfl
              have hl0 : 0 < xs.length := (List.getElem?_eq_some_iff.mp ev).1
              have Y1 := Y.sSt (u := some k) hin (vs := xs.eraseIdx 0) (g := stoO fun j => if j = k then (m'.stock k).tail else m'.stock j) (by
                rw [e2]
                show All2 _ _ (if k = k then (m'.stock k).tail else m'.stock k)
                rw [if_pos rfl, stk k rfl, es2]
                exact hsA.drop 1) (fun o ho => by
                cases o with
                | none => rfl
                | some j =>
                  show (if j = k then _ else m'.stock j) = m'.stock j
                  rw [if_neg fun z => ho (by rw [z])])
              obtain ⟨rvs1, hra1, hrA1⟩ := Y1.gRight F
              have lr1 : rvs1.length < sizeLine := by
                rw [hrA1.1]
                exact hrA.1 ▸ lr
              refine ⟨_, rfl, t0, _, 0, _, rfl, rfl, SqT.of ht0, rfl, rfl, _, rfl, iteE (by decide +kernel) ⟨_, rfl, t0, _, 0, _, rfl, rfl, SqT.of ht0, rfl, rfl, _, rfl, iteU (by decide +kernel) ⟨_, rfl, p, _, dx, _, _, rfl, hob9, Z.cl_Needles, Z.na_Needles_right, rfl, .inl ⟨rfl, _, SqL.of hra⟩, _, rfl, _, rfl, t0, _, 1, _, rfl, rfl, SqT.of ht0, rfl, sd, _, rfl, hg, .inl ⟨rfl, _, SqL.of hst⟩, _, xs, 0, 0, v, rfl, rfl, hst, by decide, by decide, ?_, ev, ra, rvs1, v, rfl, rfl, hra1, lr1, _, rfl, ?_⟩⟩⟩
              · unfold seqIndex?
                simp [hl0]
              · have rv1 : NmR (msk M (upd H9 (ad (.st (some k))) (.lst (xs.eraseIdx 0)))) v n0 := by
                  rw [msk_upd (Y.inM (.st (some k)) hin)]; exact rv
                have Y2 := Y1.sRight F (hrA1.snoc rv1)
                have e3 : (m'.stock k).headD (0, 0) = n0 := by rw [stk k rfl, es2]; rfl
                have e4 : cnOf nd (tieStep nd.made.length nd.back (manyIn row) (m.left.take (Stch.fetch k).takes) m' (.frm k)) kst kpt dx lb = _ := rfl
                show Wk K G8 _ M ad (cnOf nd { m' with right := m'.right ++ [(m'.stock k).headD (0, 0)], stock := fun j => if j = k then (m'.stock k).tail else m'.stock j } kst kpt dx lb)
                rw [e3]
                exact Y2
          | new ps =>
            have rt0 := rt9
            obtain ⟨t0, pt0, sd0, lf0, rfl, ht0, hpt0⟩ := rt9
            obtain ⟨b1, b2, _⟩ := tat.2.1 ps rfl
            obtain ⟨fvs, hfr9, hfA⟩ := Y.gFresh F
            obtain ⟨mvs, hma9, hmA⟩ := Y.gMade F
            have efl : fvs.length = m'.fresh.length := hfA.1
            have eml : mvs.length = nd.made.length := hmA.1
            refine ⟨_, rfl, t0, _, 0, _, rfl, rfl, SqT.of ht0, rfl, rfl, _, rfl, iteE (by decide +kernel) ⟨_, rfl, t0, _, 0, _, rfl, rfl, SqT.of ht0, rfl, rfl, _, rfl, iteE (by decide +kernel) ⟨_, rfl, p, _, dx, _, _, rfl, hob9, Z.cl_Needles, Z.na_Needles_right, rfl, .inl ⟨rfl, _, SqL.of hra⟩, _, rfl, p, dx, _, rfl, hob9, rfl, _, rfl, fr, fvs, rfl, .inl (SqL.of hfr9), _, rfl, p, dx, ra, hd, ga, ma, lb, nd.back, mvs, fvs.length, manyIn row, rfl, ?_, hob9, hma9, fun q hq => ?_⟩⟩⟩
            · rw [efl]; exact flt ps rfl
            rw [efl, eml]
            have s10 := sm_new (o := .tup [.int ((nmd nd.made.length nd.back (manyIn row) m'.fresh.length).1 : Int), .int ((nmd nd.made.length nd.back (manyIn row) m'.fresh.length).2 : Int)]) hq
            have Y1 := Y.grow s10
            have Y2 := Y1.sRight F (vs := rvs ++ [.ref q]) (l := m'.right ++ [nmd nd.made.length nd.back (manyIn row) m'.fresh.length]) ((hrA.mono fun _ _ => NmR.mono (msk_mono s10)).snoc ⟨q, rfl, Y1.tup upd_same⟩)
            refine ⟨ra, rvs, _, rfl, rfl, s10 _ _ hra, lr, ?_⟩
            generalize upd (upd H9 q _) ra _ = H10 at Y2 ⊢
            have sY2 := Y2.sm.trans (msk_same (M := M))
            have hob10 : H10 p = some (.ins (He.ga K "Needles") dx (ndF nd.back ra hd ga ma lb)) := Y2.gObj F
            obtain ⟨fvs2, hfr10, hfA2⟩ := Y2.gFresh F
            refine ⟨_, rfl, .inl ⟨rfl, _, SqL.of hfr10⟩, _, rfl, p, dx, _, rfl, hob10, rfl, _, rfl, _, rfl, p, dx, ra, hd, ga, ma, lb, ta, nd.back, _, ps, avs, rfl, hob10, rt.mono sY2, by omega, sY2 _ _ hta8, fun x hx => ?_, fun H11 t pt sx lx s11 n1 n2 h1 h2 => ?_⟩
            · rw [haA.1, hlen]; exact b2 x hx
            · have Y3 := Y2.grow s11
              have hG : All2 (NmR (msk M H11)) (fac nd.back (atP avs ps)) (fac nd.back (ps.map fun p => (m.left.take s.takes).getD p (0, 0))) :=
                (fac_all (haA.atP fun x hx => by rw [hlen]; exact b2 x hx)).mono fun _ _ => NmR.mono Y3.sm
              refine ⟨fr, fvs2, _, rfl, rfl, s11 _ _ hfr10, ?_, _, rfl, Y3.sFresh F ((hfA2.mono fun _ _ => LoopR.mono (msk_mono s11)).snoc ⟨t, pt, sx, lx, rfl, Y3.tup h1, _, Y3.tup h2, hG⟩)⟩
              rw [hfA2.1]
              show m'.fresh.length < sizeLine
              exact szt (by omega)
        · rintro σ H9 ⟨b10, rfl, Y⟩
          rw [htA.1] at Y
          have sY := Y.sm.trans (msk_same (M := M))
          have sGY := sG8.trans sY
          refine ⟨s, _, rfl, a, dxs, _, rfl, sGY _ _ ha, (fld_no s).2.2, .ref a, rfl, rX _ sGY, fun H10 el s10 f10 ⟨evs, hel, heA⟩ => ?_⟩
          have Y1 := Y.grow s10
          have Y2 := Y1.re
          have hel5 : (msk M H10) el = some (.lst evs) := by rw [msk_out (Y.out f10)]; exact hel
          have heA5 : All2 (EndR (msk M H10)) evs s.ends := heA.mono fun _ _ => Y1.end_
          have sG10 := Y1.sm
          generalize hG10 : msk M H10 = G10 at Y2 hel5 heA5 sG10
          clear hG10
          have hta10 := sG10 _ _ hta8
          have haA10 := haA.mono fun _ _ => NmR.mono sG10
          refine ⟨el, rfl, ⟨_, SqL.of hel⟩, for_list (K := K) (a := el) (xs := evs) (fun j σ H' => ∃ (b11 b12 : Option V),
            σ = [some (.ref p), some (.ref sa), some (.bl turn), some (.int (manyIn row : Int)), some (.ref fr), some (.ref sd), some (.ref pd), b7, some (.ref a), some (.ref ta), b10, b11, b12] ∧
            Wk K G10 H' M ad (cnOf nd (endsTo nd.made.length nd.back (manyIn row) s m j) kst kpt dx lb)) ?_ ?_ ?_ ?_⟩
          · exact ⟨_, _, rfl, Y2⟩
          · rintro j σ H' hj ⟨b11, b12, rfl, Y⟩
            exact SqL.of ((Y.sm.trans msk_same) _ _ hel5)
          · rintro j x σ H11 hx ⟨b11, b12, rfl, Y⟩
            obtain ⟨⟨q, e⟩, et, t0, rfl, ht0⟩ := heA5.getV hx
            have sY := Y.sm.trans (msk_same (M := M))
            have ht11 := sY _ _ ht0
            rw [endsTo_succ et]
            have hq := end_at et
            have ze := ends_len s
            have zj := (List.getElem?_eq_some_iff.mp et).1
            have z1' := szOff.ends (R := nd.made.length) (back := nd.back) (many := manyIn row) (s := s) (m := m) j
            have z2' := fun u => (szPut u).ends (R := nd.made.length) (back := nd.back) (many := manyIn row) (s := s) (m := m) j
            generalize endsTo nd.made.length nd.back (manyIn row) s m j = m' at Y z1' z2' ⊢
            obtain ⟨v, ev, rv, _⟩ := haA10.getD (p := q) (by rw [hlen]; exact hq)
            have hin : e ∈ kpt := (m2 e).mpr (by
              cases e with
              | none => exact .inl rfl
              | some k => exact .inr ((hnm k).mp (named_iff.mpr (.inr (List.mem_flatMap.mpr ⟨s, hm, List.mem_map.mpr ⟨_, List.mem_of_getElem? et, rfl⟩⟩)))))
            have hpd11 : H11 pd = some (.dK (dcw kpt fun u => .ref (ad (.pt u)))) := Y.gPut F rfl
            have hg : DGet H11 pd (.str (wordS e)) (some (.ref (ad (.pt e)))) := by
              have := DGet.k (k := keyW e) hpd11
              rw [dcw_in hin] at this
              exact this
            obtain ⟨xs, hpt, hpA⟩ := Y.gPt hin
            refine ⟨t0, _, rfl, SqT.of ht11, rfl, _, _, rfl, _, _, rfl, rfl, _, rfl, _, rfl, pd, _, rfl, hg, .inl ⟨rfl, _, SqL.of hpt⟩, _, rfl, _, rfl, ta, avs, _, v, rfl, rfl, SqL.of (sY _ _ hta10), at_of (j := q) rfl ev, ad (.pt e), xs, v, rfl, rfl, hpt, ?_, _, _, rfl, ?_⟩
            · rw [hpA.1]
              cases e with
              | none => show m'.off.length < sizeLine; exact szt (by omega)
              | some k => show (m'.put k).length < sizeLine; have := z2' k; have := zp k; exact szt (by omega)
            · have key : cnOf nd (endStep (m.left.take s.takes) m' (q, e)) kst kpt dx lb = { cnOf nd m' kst kpt dx lb with puo := puoO (endStep (m.left.take s.takes) m' (q, e)) } := by cases e <;> rfl
              rw [key]
              refine Y.sPt (u := e) hin (vs := xs ++ [v]) (g := puoO (endStep (m.left.take s.takes) m' (q, e))) ?_ (fun o ho => ?_)
              · have hs := hpA.snoc (rv.mono Y.sm)
                cases e with
                | none => exact hs
                | some k =>
                  show All2 _ _ (if k = k then _ else _)
                  rw [if_pos rfl]
                  exact hs
              · cases e with
                | none => cases o with
                  | none => exact absurd rfl ho
                  | some j2 => rfl
                | some k => cases o with
                  | none => rfl
                  | some j2 =>
                    show (if j2 = k then _ else m'.put j2) = m'.put j2
                    rw [if_neg fun z => ho (by rw [z])]
          · rintro σ H11 ⟨b11, b12, rfl, Y⟩
            rw [heA.1] at Y
            exact ⟨_, _, _, _, _, _, lb, rfl, Y.of (sG8.trans sG10)⟩
      · rintro σ H7 ⟨b7, b8, b9, b10, b11, b12, la', rfl, X⟩
        have zr := szRight.row (R := nd.made.length) (back := nd.back) (many := manyIn row) (m := startMid nd row) (row := row) row.length
        have zo := szOff.row (R := nd.made.length) (back := nd.back) (many := manyIn row) (m := startMid nd row) (row := row) row.length
        have zo0 : (startMid nd row).off.length = 0 := rfl
        rw [zo0] at zo
        rw [hsA.1] at X
        have ewk : work nd row = { left := (endMid nd row).right.reverse, right := (endMid nd row).left.reverse, held := fun k => if namedIn row k then fac nd.back ((endMid nd row).put k) else nd.held k, gone := nd.gone ++ (endMid nd row).off, made := nd.made ++ [fac nd.back (endMid nd row).fresh], back := !nd.back } := rfl
        rw [ewk] at k
        clear ewk
        have zo : (endMid nd row).off.length ≤ 0 + 9 * row.length := zo
        have X : Wk K G2 H7 M ad (cnOf nd (endMid nd row) kst kpt dx la') := X
        generalize endMid nd row = m at X k zo
        have hob : H7 p = some (.ins (He.ga K "Needles") dx (ndF nd.back ra hd ga ma la')) := X.gObj F
        obtain ⟨mvs, hma, hmA⟩ := X.gMade F
        obtain ⟨fvs, hfr7, hfA⟩ := X.gFresh F
        have lm : mvs.length < sizeLine := by
          rw [hmA.1]
          show nd.made.length < sizeLine
          exact szt (by omega)
        -- the new row
        refine ⟨_, rfl, p, _, dx, _, _, rfl, hob, Z.cl_Needles, Z.na_Needles_made, rfl, .inl ⟨rfl, _, SqL.of hma⟩, _, rfl, p, dx, _, rfl, hob, rfl, _, rfl, p, fr, dx, ra, hd, ga, ma, la', nd.back, fvs, rfl, hob, hfr7, fun q hq => ⟨ma, mvs, .ref q, rfl, rfl, sm_new hq _ _ hma, lm, ?_⟩⟩
        have s8 := sm_new (o := .lst (fac nd.back fvs)) hq
        have hqM := X.out hq
        have W1 := (X.grow s8).sMade F (vs := mvs ++ [.ref q]) (l := nd.made ++ [fac nd.back m.fresh]) ((hmA.mono fun _ _ => RowR.mono (msk_mono s8)).snoc ⟨q, _, rfl, by rw [msk_out hqM, upd_same], fac_allA (hfA.mono fun _ _ => LoopR.mono (msk_mono s8))⟩)
        generalize upd (upd H7 q (.lst (fac nd.back fvs))) ma (.lst (mvs ++ [.ref q])) = H8 at W1 ⊢
        have hob8 : H8 p = some (.ins (He.ga K "Needles") dx (ndF nd.back ra hd ga ma la')) := W1.gObj F
        obtain ⟨gvs0, hga0, hgA0⟩ := W1.gGone F
        have hpd8 : H8 pd = some (.dK (dcw kpt fun u => .ref (ad (.pt u)))) := W1.gPut F rfl
        have hnone : none ∈ kpt := (m2 none).mpr (.inl rfl)
        have hpdM : pd ∈ M := by rw [← F.put]; exact W1.inM .put rfl
        -- put.pop("off")
        have npd : ∀ t, t ≠ Sl.put → live (cnOf nd m kst kpt dx la') t → ad t ≠ pd := fun t n h e => n (X.inj t .put h rfl (by rw [e, F.put]))
        have W1' := W1.as (C' := { cnOf nd m kst kpt dx la' with made := nd.made ++ [fac nd.back m.fresh], lput := false }) (fun t h => by cases t <;> first | exact h | rfl) (fun t x h q => by cases t <;> first | exact q | exact Bool.noConfusion h) ⟨rfl, rfl⟩ W1.kn
        have nput : ∀ {C' : Cn}, (∀ t, live C' t → t ≠ .put ∧ live (cnOf nd m kst kpt dx la') t) → ∀ t, live C' t → ad t ≠ pd := fun h t ht => npd t (h t ht).1 (h t ht).2
        have lvC : ∀ {gn hl' md'}, ∀ t, live { cnOf nd m kst kpt dx la' with made := md', gone := gn, held := hl', lput := false } t → t ≠ .put ∧ live (cnOf nd m kst kpt dx la') t := fun t h => by
          cases t <;> first | exact ⟨fun e => Sl.noConfusion e, h⟩ | exact Bool.noConfusion h
        have W2 := W1'.updO (a := pd) (o := .dK (dropK (dcw kpt fun u => .ref (ad (.pt u))) (keyW none))) hpdM (nput lvC) (fun xs e => by cases e)
        obtain ⟨gvs, hga, hgA⟩ := W2.gGone F
        obtain ⟨ovs, hov, hoA⟩ := W2.gPt (u := none) hnone
        have hgl : gvs.length = nd.gone.length := hgA.1
        have hol : ovs.length = m.off.length := hoA.1
        refine ⟨_, rfl, p, _, dx, _, _, rfl, hob8, Z.cl_Needles, Z.na_Needles_gone, rfl, .inl ⟨rfl, _, SqL.of hga0⟩, _, rfl, pd, rfl, .inl ⟨_, .inl hpd8⟩, _, keyW none, _, hpd8, rfl, dcw_in hnone, ga, ad (.pt none), gvs, ovs, rfl, rfl, hga, hov, szl (by omega), ?_⟩
        have W3 := W2.sGone F (vs := gvs ++ ovs) (l := nd.gone ++ m.off) (hgA.append hoA)
        have hgp : ga ≠ pd := by rw [← F.gone]; exact npd .gone (fun e => by cases e) True.intro
        have hpd10 : (upd (upd H8 pd (.dK (dropK (dcw kpt fun u => .ref (ad (.pt u))) (keyW none)))) ga (.lst (gvs ++ ovs))) pd = some (.dK (dcw (kpt.filter fun u => decide (u ≠ none)) fun u => .ref (ad (.pt u)))) := by
          rw [upd_ne (Ne.symm hgp), upd_same, dcw_drop]
        generalize upd (upd H8 pd (.dK (dropK (dcw kpt fun u => .ref (ad (.pt u))) (keyW none)))) ga (.lst (gvs ++ ovs)) = H10 at W3 hpd10 ⊢
        have hkf : ∀ u, u ∈ kpt.filter (fun u => decide (u ≠ none)) → u ∈ kpt ∧ u ≠ none := fun u h => by
          have := List.mem_filter.mp h
          exact ⟨this.1, of_decide_eq_true this.2⟩
        have hkf2 : ∀ j : K34.W, some j ∈ kpt.filter (fun u => decide (u ≠ none)) ↔ namedIn row j = true := fun j => by
          rw [List.mem_filter, hnm, m2]
          simp
        generalize kpt.filter (fun u => decide (u ≠ none)) = kf at hpd10 hkf hkf2
        -- the keepers' loops
        refine ⟨pd, _, hpd10, True.intro, fun od => ?_⟩
        have W4 := W3.updO (a := pd) (o := .frz od (.dK (dcw kf fun u => .ref (ad (.pt u))))) hpdM (nput lvC) (fun xs e => by cases e)
        refine ⟨_, rfl, pd, od, rfl, .inl ⟨_, upd_same, for_it walk_keys (fun i σ H' => ∃ b7 : Option V, σ = [some (.ref p), some (.ref sa), some (.bl turn), some (.int (manyIn row : Int)), some (.ref fr), some (.ref sd), some (.ref pd), b7, b8, b9, b10, b11, b12] ∧
          H' pd = some (.frz od (.dK (dcw kf fun u => .ref (ad (.pt u))))) ∧ Wk K G2 H' M ad { cnOf nd m kst kpt dx la' with made := nd.made ++ [fac nd.back m.fresh], gone := nd.gone ++ m.off, held := fun j => if some j ∈ kf.take i then fac nd.back (m.put j) else nd.held j, lput := false }) ?_ ?_ ?_ ?_⟩⟩
        · refine ⟨_, rfl, upd_same, ?_⟩
          have e0 : (fun j : K34.W => if some j ∈ kf.take 0 then fac nd.back (m.put j) else nd.held j) = nd.held := by
            funext j
            simp
          rw [e0]
          exact W4
        · rintro i σ H' hi ⟨b7, rfl, hp, _⟩
          exact hp
        · rintro i x σ H' H'' hi ⟨b7, rfl, hp, Y⟩ ⟨rfl, kk, vv, hk, rfl⟩
          unfold dcw at hk
          rw [List.getElem?_map] at hk
          cases eo : kf[i]? with
          | none => rw [eo] at hk; cases hk
          | some o =>
            rw [eo] at hk
            cases hk
            obtain ⟨ho1, ho2⟩ := hkf o (List.mem_of_getElem? eo)
            cases o with
            | none => exact absurd rfl ho2
            | some j =>
              have hobY : H'' p = some (.ins (He.ga K "Needles") dx (ndF nd.back ra hd ga ma la')) := Y.gObj F
              obtain ⟨pvs, hpv, hpA⟩ := Y.gPt (u := some j) ho1
              refine ⟨_, rfl, p, dx, _, rfl, hobY, rfl, _, rfl, _, rfl, pd, .ref (ad (.pt (some j))), rfl, .inl ⟨_, keyW (some j), .inr ⟨od, hp⟩, rfl, (dcw_in (f := fun u => V.ref (ad (.pt u))) (List.mem_of_getElem? eo)).symm⟩, p, ad (.pt (some j)), dx, ra, hd, ga, ma, la', nd.back, pvs, rfl, hobY, hpv, fun q hq => ?_⟩
              have s9 := sm_new (o := .lst (fac nd.back pvs)) hq
              have Y1 := Y.grow s9
              have hqM := Y.out hq
              obtain ⟨ho, hho, hhc⟩ := Y1.gHeld F
              obtain ⟨ks, f, rfl, n, c⟩ := hhc
              have hqN : NmsL (msk M (upd H'' q (.lst (fac nd.back pvs)))) q (fac nd.back (m.put j)) := ⟨_, by rw [msk_out hqM, upd_same], (fac_all hpA).mono fun _ _ => NmR.mono (msk_mono s9)⟩
              obtain ⟨hput, hlen⟩ := heldPut (k := j) ⟨ks, f, rfl, n, c⟩ hqN
              have hhd : hd ≠ pd := by rw [← F.held]; exact npd .held (fun e => by cases e) True.intro
              refine ⟨_, rfl, p, _, dx, _, _, rfl, s9 _ _ hobY, Z.cl_Needles, Z.na_Needles_held, rfl, _, rfl, hd, _, rfl, DPut.k (k := keyW (some j)) hho hlen, _, rfl, ?_, ?_⟩
              · rw [upd_ne (Ne.symm hhd)]
                exact s9 _ _ hp
              · have Y2 := Y1.sHeld F hput
                have e0 : (fun i2 : K34.W => if some i2 ∈ kf.take (i + 1) then fac nd.back (m.put i2) else nd.held i2) = fun i2 => if i2 = j then fac nd.back (m.put j) else if some i2 ∈ kf.take i then fac nd.back (m.put i2) else nd.held i2 := by
                  funext i2
                  rw [take_snoc eo]
                  by_cases z : i2 = j
                  · subst z; simp
                  · simp [z]
                rw [e0]
                exact Y2
        · rintro σ H11 ⟨b7, rfl, hp, Y⟩
          rw [dcw_len, List.take_length] at Y
          refine ⟨hp, ?_⟩
          have eh : (fun j : K34.W => if some j ∈ kf then fac nd.back (m.put j) else nd.held j) = fun j => if namedIn row j then fac nd.back (m.put j) else nd.held j := by
            funext j
            by_cases z : namedIn row j = true
            · rw [if_pos z, if_pos ((hkf2 j).mpr z)]
            · rw [if_neg z, if_neg fun y => z ((hkf2 j).mp y)]
          rw [eh] at Y
          have W5 := Y.updO (a := pd) (o := .dK (dcw kf fun u => .ref (ad (.pt u)))) hpdM (nput lvC) (fun xs e => by cases e)
          generalize upd H11 pd (.dK (dcw kf fun u => .ref (ad (.pt u)))) = H12 at W5 ⊢
          have hob12 : H12 p = some (.ins (He.ga K "Needles") dx (ndF nd.back ra hd ga ma la')) := W5.gObj F
          obtain ⟨rvs, hr12, hrA⟩ := W5.gRight F
          obtain ⟨lvs, hl12, hlA⟩ := W5.lf
          have hl12' := (msk_of hl12).1
          obtain ⟨gv, hg12, hgA12⟩ := W5.gGone F
          obtain ⟨mv, hm12, hmA12⟩ := W5.gMade F
          obtain ⟨ho, hh12, hhc⟩ := W5.gHeld F
          refine ⟨_, rfl, p, dx, _, rfl, hob12, rfl, p, dx, ra, hd, ga, ma, la', nd.back, rvs, lvs, rfl, hob12, hr12, hl12', fun H13 q1 q2 n1 n2 n12 hc2 e1 e2 e3 => ?_⟩
          refine ⟨_, rfl, p, _, dx, _, _, rfl, e3, Z.cl_Needles, Z.na_Needles_left, rfl, q1, _, rfl, .inl (SqL.of e1), _, rfl, p, _, dx, _, _, rfl, e3, Z.cl_Needles, Z.na_Needles_right, rfl, q2, _, rfl, .inl (SqL.of e2), _, _, rfl, rfl, k _ ⟨dx, q2, hd, ga, ma, q1⟩ _ ?_ ?_⟩
          · exact (sG2.trans W5.sm).trans (sE W5 F hob12 hh12 hg12 hm12 n1 n2 hc2)
          · have s13 := sE W5 F hob12 hh12 hg12 hm12 n1 n2 hc2
            have ij := fun t t' h h' (n : t ≠ t') (e : ad t = ad t') => n (W5.inj t t' h h' e)
            have i1 : p ≠ hd := fun e => ij .self .held True.intro True.intro (fun e => by cases e) (by rw [F.self, F.held, e])
            have i2 : p ≠ ga := fun e => ij .self .gone True.intro True.intro (fun e => by cases e) (by rw [F.self, F.gone, e])
            have i3 : p ≠ ma := fun e => ij .self .made True.intro True.intro (fun e => by cases e) (by rw [F.self, F.made, e])
            have i4 : hd ≠ ga := fun e => ij .held .gone True.intro True.intro (fun e => by cases e) (by rw [F.held, F.gone, e])
            have i5 : hd ≠ ma := fun e => ij .held .made True.intro True.intro (fun e => by cases e) (by rw [F.held, F.made, e])
            have i6 : ga ≠ ma := fun e => ij .gone .made True.intro True.intro (fun e => by cases e) (by rw [F.gone, F.made, e])
            have j1 := ne_of_none hob12 n2
            have j2 := ne_of_none hh12 n2
            have j3 := ne_of_none hg12 n2
            have j4 := ne_of_none hm12 n2
            have l1 := ne_of_none hob12 n1
            have l2 := ne_of_none hh12 n1
            have l3 := ne_of_none hg12 n1
            have l4 := ne_of_none hm12 n1
            refine ⟨by unfold NdA.own; simp [i1, i2, i3, i4, i5, i6, j1, j2.symm, j3.symm, j4.symm], e3, ⟨_, e2, hlA.reverse.mono fun _ _ => NmR.mono s13⟩, ⟨_, ?_, hrA.reverse.mono fun _ _ => NmR.mono s13⟩, ⟨ho, by rw [hc2 _ i1.symm l2 j2]; exact hh12, hhc.mono s13⟩, ⟨_, by rw [hc2 _ i2.symm l3 j3]; exact hg12, hgA12.mono fun _ _ => NmR.mono s13⟩, ⟨_, by rw [hc2 _ i3.symm l4 j4]; exact hm12, hmA12.mono fun _ _ => RowR.mono s13⟩⟩
            rw [msk_out (by unfold NdA.own; simp [l1.symm, l2.symm, l3.symm, l4.symm, n12])]
            exact e1
end K34
set_option autoImplicit true
set_option Elab.async false
set_option linter.all false
set_option maxRecDepth 100000
set_option maxHeartbeats 4000000
namespace K34
open PySem PySem.Spec PyProof.Rows L2

/-! ### what holds of a web that was knitted -/
section
variable {nd : Nd} {off : List Name}
theorem mem_kp {held : W → List Name} {n : Name} : n ∈ (keptTo held 4).flatMap (fun q => q.2) ↔ ∃ k, n ∈ held k := by
  unfold keptTo
  rw [List.mem_flatMap]
  constructor
  · rintro ⟨q, hq, hn⟩
    obtain ⟨k, _, rfl⟩ := List.mem_map.mp hq
    exact ⟨k, hn⟩
  · rintro ⟨k, hn⟩
    refine ⟨(k, held k), List.mem_map.mpr ⟨k, List.mem_filter.mpr ⟨?_, ?_⟩, rfl⟩, hn⟩
    · exact mem_allW k
    · exact decide_eq_true fun e => by rw [e] at hn; cases hn
theorem len_kp (held : W → List Name) : ((keptTo held 4).flatMap (fun q => q.2)).length ≤ sumW fun k => (held k).length := by
  unfold keptTo
  have h : ∀ l : List W, (((l.filter fun k => decide (held k ≠ [])).map fun k => (k, held k)).flatMap (fun q => q.2)).length = (l.map fun k => (held k).length).sum := fun l => by
    induction l with
    | nil => rfl
    | cons k l ih =>
      rw [List.filter_cons, List.map_cons, List.sum_cons, ← ih]
      by_cases q : held k = []
      · rw [if_neg (by simp [q]), q]; simp
      · rw [if_pos (by simp [q]), List.map_cons, List.flatMap_cons, List.length_append]
  rw [h]
  show ([W.w, W.x, W.y, W.z].map fun k => (held k).length).sum ≤ _
  unfold sumW
  simp
  omega
theorem mem_ly : ∀ {n : Name}, n ∈ (webOf nd off).ly ↔ n ∈ nd.right ∨ n ∈ nd.left := fun {n} => by
  show n ∈ fac nd.back (nd.right ++ nd.left) ↔ _
  rw [mem_fac, List.mem_append]
/-- where a name lies -/
theorem place (h : off.Perm nd.gone) (n : Name) : (n ∈ heldL (webOf nd off) ↔ 0 < cN nd n) ∧ (cN nd n ≤ 1 → (n ∈ (webOf nd off).ly → n ∉ (webOf nd off).off ∧ n ∉ kpAll (webOf nd off))) := by
  have c1 : n ∈ nd.right ↔ 0 < nd.right.count n := List.count_pos_iff.symm
  have c2 : n ∈ nd.left ↔ 0 < nd.left.count n := List.count_pos_iff.symm
  have c3 : n ∈ nd.gone ↔ 0 < nd.gone.count n := List.count_pos_iff.symm
  have c4 : ∀ k, n ∈ nd.held k ↔ 0 < (nd.held k).count n := fun k => List.count_pos_iff.symm
  have m3 : n ∈ (webOf nd off).off ↔ 0 < nd.gone.count n := by rw [← c3]; exact h.mem_iff
  have m4 : n ∈ kpAll (webOf nd off) ↔ 0 < sumW fun k => (nd.held k).count n := by
    refine mem_kp.trans ⟨fun ⟨k, hk⟩ => ?_, fun hk => ?_⟩
    · have := (c4 k).mp hk
      unfold sumW
      simp only
      cases k <;> omega
    · unfold sumW at hk
      simp only at hk
      have : 0 < (nd.held .w).count n ∨ 0 < (nd.held .x).count n ∨ 0 < (nd.held .y).count n ∨ 0 < (nd.held .z).count n := by omega
      rcases this with q | q | q | q
      · exact ⟨_, (c4 _).mpr q⟩
      · exact ⟨_, (c4 _).mpr q⟩
      · exact ⟨_, (c4 _).mpr q⟩
      · exact ⟨_, (c4 _).mpr q⟩
  constructor
  · unfold heldL
    rw [List.mem_append, List.mem_append, mem_ly, m3, m4, c1, c2]
    unfold cN
    omega
  · intro h1 h2
    rw [mem_ly, c1, c2] at h2
    rw [m3, m4]
    unfold cN at h1
    omega
theorem endS_lies (d : WebD) (n : Name) : endS d n = "lies" ↔ n ∉ d.off ∧ n ∉ kpAll d := by
  unfold endS
  by_cases q1 : n ∈ d.off
  · rw [if_pos q1]
    exact ⟨fun e => absurd e (by decide +kernel), fun e => absurd q1 e.1⟩
  · rw [if_neg q1]
    by_cases q2 : n ∈ kpAll d
    · rw [if_pos q2]
      exact ⟨fun e => absurd e (by decide +kernel), fun e => absurd q2 e.2⟩
    · rw [if_neg q2]
      exact ⟨fun _ => ⟨q1, q2⟩, fun _ => rfl⟩
theorem abv_nil {rows : Rows} {n : Name} : abv rows n = [] ↔ ¬ drawn rows n := by
  rw [List.eq_nil_iff_forall_not_mem]
  constructor
  · rintro h ⟨m, h1, h2⟩
    exact h m (mem_abv.mpr ⟨h1, h2⟩)
  · rintro h m hm
    obtain ⟨h1, h2⟩ := mem_abv.mp hm
    exact h ⟨m, h1, h2⟩
theorem cN_le (N : NdOk nd) (n : Name) : cN nd n ≤ 1 := by
  by_cases q : n ∈ names nd.made
  · rcases N.old n q with h | h <;> omega
  · rw [N.els n q]; omega
theorem web_ties (N : NdOk nd) (h : off.Perm nd.gone) : TiesOk (webOf nd off) := by
  refine ⟨fun n hn hh => ?_, fun n hn hh _ => ?_⟩
  · have h1 : ¬ 0 < cN nd n := fun q => hh ((place h n).1.mpr q)
    rcases N.old n hn with ⟨a, _⟩ | ⟨_, b⟩
    · exact fun e => abv_nil.mp e a
    · omega
  · have h1 := (place h n).1.mp hh
    rcases N.old n hn with ⟨_, b⟩ | ⟨a, _⟩
    · omega
    · exact abv_nil.mpr a
theorem web_falls (N : NdOk nd) (h : off.Perm nd.gone) : FallsOk (webOf nd off) (told (webOf nd off).rows (goneD (webOf nd off) (webOf nd off).ly)) := by
  have hw : Wf (webOf nd off).rows := N.wf
  refine ⟨fun n hn => ?_, nodup_told _ _, fun n hn => (mem_told.mp hn).1⟩
  have gi := gone_iff (loose := fun n => n ∈ (webOf nd off).ly) (ends := fun n => n ∈ heldL (webOf nd off)) hw n
  rw [mem_told]
  have gi : n ∈ goneD (webOf nd off) (webOf nd off).ly ↔ n ∈ names (webOf nd off).rows ∧ (n ∈ (webOf nd off).ly ∨ (¬ n ∈ heldL (webOf nd off) ∧ ∀ d ∈ abv (webOf nd off).rows n, d ∈ goneD (webOf nd off) (webOf nd off).ly)) := gi
  have hly : n ∈ (webOf nd off).ly → n ∈ heldL (webOf nd off) := fun q => List.mem_append_left _ (List.mem_append_left _ q)
  by_cases q : n ∈ heldL (webOf nd off)
  · rw [if_pos q, endS_lies, gi]
    constructor
    · rintro ⟨a, b⟩
      refine ⟨hn, hn, .inl ?_⟩
      rcases List.mem_append.mp q with z | z
      · exact (List.mem_append.mp z).resolve_right a
      · exact absurd z b
    · rintro ⟨_, _, z | z⟩
      · exact (place h n).2 (cN_le N n) z
      · exact absurd q z.1
  · rw [if_neg q, gi]
    constructor
    · intro z
      exact ⟨hn, hn, .inr ⟨q, fun d hd => (mem_told.mp (z d hd)).2⟩⟩
    · rintro ⟨_, _, z | z⟩
      · exact absurd (hly z) q
      · exact fun m hm => mem_told.mpr ⟨(mem_abv.mp hm).1, z.2 m hm⟩
theorem web_walk (N : NdOk nd) (h : off.Perm nd.gone) {n last : Name} {p : List Name} (hp : WayTo (webOf nd off) (webOf nd off).ly n p last) (hl : last ∈ heldL (webOf nd off)) : WalkOk (webOf nd off) (told (webOf nd off).rows (goneD (webOf nd off) (webOf nd off).ly)) n p last := by
  have hw : Wf (webOf nd off).rows := N.wf
  have hlp : last ∈ p := List.mem_of_getElem? hp.ls
  obtain ⟨g1, g2⟩ := hp.ok last hlp
  refine ⟨hp.hd, hp.ch, fun x hx => ⟨(hp.ok x hx).1, fun z => (hp.ok x hx).2 (mem_told.mp z).2⟩, hp.ls, hl, fun e => g2 ?_⟩
  obtain ⟨a, b⟩ := (endS_lies _ _).mp e
  refine (gone_iff (loose := fun n => n ∈ (webOf nd off).ly) (ends := fun n => n ∈ heldL (webOf nd off)) hw last).mpr ⟨g1, .inl ?_⟩
  rcases List.mem_append.mp hl with z | z
  · exact (List.mem_append.mp z).resolve_right a
  · exact absurd z b
theorem web_small {n0 i : Nat} {rm : Rm} (S : Sim n0 i rm nd) (hi : i ≤ 200) (hnow : rm.now = []) (h : off.Perm nd.gone) : Small (webOf nd off) := by
  have a := S.psi
  have c := S.nms
  have d := S.eds
  have e := S.gon
  have f := S.rws
  have g := S.le
  have hm := ndAt_made n0 rm.rows rm.rows.length (Nat.le_refl _)
  rw [← S.at_] at hm
  have hk := len_kp nd.held
  refine ⟨?_, ?_, ?_, ?_, ?_, ?_⟩
  · show (names nd.made).length ≤ _; omega
  · show nd.made.length ≤ _; omega
  · show (eNames nd.made (names nd.made)).length ≤ _; omega
  · show (fac nd.back (nd.right ++ nd.left)).length ≤ _
    rw [length_fac, List.length_append, ← S.other, ← S.hand]
    have ht : rm.taken = 0 := by rw [S.taken, hnow]; rfl
    omega
  · show off.length ≤ _
    rw [h.length_eq]; omega
  · show ((keptTo nd.held 4).flatMap (fun q => q.2)).length ≤ _
    have ht : rm.taken = 0 := by rw [S.taken, hnow]; rfl
    have hp : ∀ k, (rm.put k).getD (rm.liesN k) = (nd.held k).length := fun k => by
      cases q : rm.put k with
      | none => exact S.lies k
      | some n =>
        have := (S.putS k n q).2.2
        rw [hnow] at this
        cases this
    rw [sumW_eq hp] at a
    omega
end
end K34
set_option autoImplicit true
set_option Elab.async false
set_option linter.all false
set_option maxRecDepth 100000
set_option maxHeartbeats 4000000
namespace K34
open PySem PySem.Spec PyProof.Rows L2
variable {P : Program} {w : World} {K : PySem.W.Frag} {mg : Str → Option Value} {base : Heap}

/-! ### _law_cell_at -/
theorem sqM {H H' : Hp} {a : Addr} {xs : List V} (s : Same H H') (h : SqL K H a xs) : SqL K H' a xs := h.elim (fun h => .inl (rd_mono s h)) .inr
def spCellAt (K : PySem.W.Frag) : Sp := fun vs H Q _ => ∃ (a : Addr) (cs : List Int), vs = [.ref a, .int 0] ∧ SqL K H a (cs.map V.int) ∧ Q (.int (cs.getD 0 0)) H
theorem sc_law_cell_at : FnScope ["_law_script", "_law_k"] ["_law_script", "_law_k"] (defScope s_law_cell_at) := ⟨rfl, rfl, rfl, by decide +kernel, rfl, by decide +kernel, by decide +kernel⟩
theorem ok_law_cell_at (Z : Zt K mg) : Cal P w K mg base "_law_cell_at" 1 ["_law_script", "_law_k"] (spCellAt K) := by
  obtain ⟨fd, F⟩ := Z.du_law_cell_at
  refine ⟨Z.gl_law_cell_at, F.kp, fd, F.ok sc_law_cell_at (fun vs H Q E h => ?_) (fun cdv A outer s H vs Q E hr h => ?_), FunD.bindsN F fun _ _ _ _ _ _ us hl => match us, hl with | [_, _], _ => rfl⟩
  · obtain ⟨a, cs, rfl, _⟩ := h
    rfl
  · obtain ⟨a, cs, rfl, ha, k⟩ := h
    refine ⟨_, PSs.nox (pss_cons (ps_if (pt_cmpR op_lt (pv 1) (pe_callB call_len_seq (by rfl) Z.fr_len PySem.boot_len (pa_cons (pv 0) pa_nil)) (nomark _)) (pss_one (ps_ret (pe_ix ix_list (pv 0) (pv 1) (fun _ _ => rfl)))) pss_nil)
      (pss_one (ps_ret pe_int))), ?_⟩
    refine ⟨_, rfl, _, rfl, a, _, rfl, .inl (ha), _, _, rfl, rfl, _, rfl, ?_⟩
    cases cs with
    | nil => exact iteE (by decide) k
    | cons c cs =>
      refine iteU (decide_eq_true ?_) ⟨_, rfl, _, rfl, a, _, _, .int c, rfl, rfl, ha, at_of (j := 0) rfl rfl, k⟩
      show (0 : Int) < (((c :: cs).map V.int).length : Int)
      rw [List.length_map, List.length_cons]
      omega

/-! ### _law_takes, _law_gives -/
def fstC : Stch → Nat
  | .plain f => if f then 107 else 112
  | .slip => 115 | .over => 111
  | .lean _ _ f => if f then 107 else 112
  | .grow _ f => if f then 107 else 112
  | .cross _ _ _ f => if f then 99 else 113
  | .off => 98 | .keep _ => 104 | .fetch _ => 102
theorem mk_small (st : Stch) : (mkS st).length ≤ sizeLine := by
  rw [mk_len]
  have := mk_range st
  exact szl (by omega)
theorem mk_fst (st : Stch) : atI (mkS st).cps.toList 0 = some (fstC st) := by cases st <;> rfl
def spNum (f : Stch → Nat) : Sp := fun vs H Q _ => ∃ st : Stch, vs = [.str (mkS st)] ∧ Q (.int (f st : Int)) H
theorem ne_x3 : ∀ m : Fin 3, V.bl (!decide (V.str ⟨#[50 + m.val]⟩ = V.str "x")) = V.bl true := by decide +kernel
theorem sc_law_takes : FnScope ["_law_mark_here"] ["_law_mark_here"] (defScope s_law_takes) := ⟨rfl, rfl, rfl, by decide +kernel, rfl, by decide +kernel, by decide +kernel⟩
theorem ok_law_takes (Z : Zt K mg) : Cal P w K mg base "_law_takes" 1 ["_law_mark_here"] (spNum Stch.takes) := by
  obtain ⟨fd, F⟩ := Z.du_law_takes
  refine ⟨Z.gl_law_takes, F.kp, fd, F.ok sc_law_takes (fun vs H Q E h => ?_) (fun cdv A outer s H vs Q E hr h => ?_), FunD.bindsN F fun _ _ _ _ _ _ us hl => match us, hl with | [_], _ => rfl⟩
  · obtain ⟨st, rfl, _⟩ := h
    rfl
  · obtain ⟨st, rfl, k⟩ := h
    refine ⟨_, PSs.nox (pss_cons (ps_if (pt_cmpR op_in_sign (pe_ix ix_str (pv 0) pe_int (fun _ _ => rfl)) pe_str (by rfl)) (pss_one (ps_ret (pe_op op_add (pe_callTy call_int_str (by rfl) Z.fr_int (by decide +kernel) (pa_cons (pe_ix ix_str (pv 0) pe_int (fun _ _ => rfl)) pa_nil)) (pe_callTy call_int_str (by rfl) Z.fr_int (by decide +kernel) (pa_cons (pe_ix ix_str (pv 0) pe_int (fun _ _ => rfl)) pa_nil))))) pss_nil)
      (pss_cons (ps_if (pt_cmpR op_in_sign (pe_ix ix_str (pv 0) pe_int (fun _ _ => rfl)) pe_str (by rfl)) (pss_one (ps_ret pe_int)) pss_nil)
      (pss_cons (ps_if (PW.pt (pw_and (pt_cmpR op_eq (pe_callB call_len_str (by rfl) Z.fr_len PySem.boot_len (pa_cons (pv 0) pa_nil)) pe_int (nomark _)) (pw_and1 (pt_cmpR op_ne (pe_ix ix_str (pv 0) pe_int (fun _ _ => rfl)) pe_str (nomark _))))) (pss_one (ps_ret (pe_callTy call_int_str (by rfl) Z.fr_int (by decide +kernel) (pa_cons (pe_ix ix_str (pv 0) pe_int (fun _ _ => rfl)) pa_nil)))) pss_nil)
      (pss_one (ps_ret pe_int))))), ?_⟩
    have hz := mk_small st
    have hx := mk_fst st
    cases st with
    | cross a b v f =>
      refine ⟨_, rfl, _, 0, (if f then 99 else 113), rfl, rfl, hz, hx, _, _, rfl, rfl, true, (by cases f <;> decide +kernel), iteT ?_⟩
      refine ⟨_, rfl, _, 1, 49 + a.val, rfl, rfl, hz, rfl, _, _, rfl, dig4 a, (by show 1 ≤ 640; decide), _, rfl, _, 3, 49 + b.val, rfl, rfl, hz, rfl, _, _, rfl, dig4 b, (by show 1 ≤ 640; decide), _, _, rfl, rfl, ?_⟩
      exact k
    | over =>
      refine ⟨_, rfl, _, 0, 111, rfl, rfl, hz, hx, _, _, rfl, rfl, false, (by decide +kernel), iteF ?_⟩
      refine ⟨_, rfl, _, 0, 111, rfl, rfl, hz, hx, _, _, rfl, rfl, true, (by decide +kernel), iteT ?_⟩
      exact k
    | fetch j =>
      refine ⟨_, rfl, _, 0, 102, rfl, rfl, hz, hx, _, _, rfl, rfl, false, (by decide +kernel), iteF ?_⟩
      refine ⟨_, rfl, _, 0, 102, rfl, rfl, hz, hx, _, _, rfl, rfl, true, (by decide +kernel), iteT ?_⟩
      exact k
    | lean m r f =>
      refine ⟨_, rfl, _, 0, (if f then 107 else 112), rfl, rfl, hz, hx, _, _, rfl, rfl, false, (by cases f <;> decide +kernel), iteF ?_⟩
      refine ⟨_, rfl, _, 0, (if f then 107 else 112), rfl, rfl, hz, hx, _, _, rfl, rfl, false, (by cases f <;> decide +kernel), iteF ?_⟩
      refine ⟨_, rfl, _, rfl, hz, rfl, true, rfl, iteT ?_⟩
      refine ⟨_, rfl, _, 1, 50 + m.val, rfl, rfl, hz, rfl, rfl, true, ne_x3 m, iteT ?_⟩
      refine ⟨_, rfl, _, 1, 50 + m.val, rfl, rfl, hz, rfl, _, _, rfl, dig3 m, (by show 1 ≤ 640; decide), ?_⟩
      exact k
    | grow m f =>
      refine ⟨_, rfl, _, 0, (if f then 107 else 112), rfl, rfl, hz, hx, _, _, rfl, rfl, false, (by cases f <;> decide +kernel), iteF ?_⟩
      refine ⟨_, rfl, _, 0, (if f then 107 else 112), rfl, rfl, hz, hx, _, _, rfl, rfl, false, (by cases f <;> decide +kernel), iteF ?_⟩
      refine ⟨_, rfl, _, rfl, hz, rfl, true, rfl, iteT ?_⟩
      refine ⟨_, rfl, _, 1, 120, rfl, rfl, hz, rfl, rfl, false, (by decide +kernel), iteF ?_⟩
      exact k
    | plain f =>
      refine ⟨_, rfl, _, 0, (if f then 107 else 112), rfl, rfl, hz, hx, _, _, rfl, rfl, false, (by cases f <;> decide +kernel), iteF ?_⟩
      refine ⟨_, rfl, _, 0, (if f then 107 else 112), rfl, rfl, hz, hx, _, _, rfl, rfl, false, (by cases f <;> decide +kernel), iteF ?_⟩
      exact ⟨_, rfl, _, rfl, hz, rfl, false, rfl, iteF (iteF k)⟩
    | slip =>
      refine ⟨_, rfl, _, 0, 115, rfl, rfl, hz, hx, _, _, rfl, rfl, false, (by decide +kernel), iteF ?_⟩
      refine ⟨_, rfl, _, 0, 115, rfl, rfl, hz, hx, _, _, rfl, rfl, false, (by decide +kernel), iteF ?_⟩
      exact ⟨_, rfl, _, rfl, hz, rfl, false, rfl, iteF (iteF k)⟩
    | off =>
      refine ⟨_, rfl, _, 0, 98, rfl, rfl, hz, hx, _, _, rfl, rfl, false, (by decide +kernel), iteF ?_⟩
      refine ⟨_, rfl, _, 0, 98, rfl, rfl, hz, hx, _, _, rfl, rfl, false, (by decide +kernel), iteF ?_⟩
      exact ⟨_, rfl, _, rfl, hz, rfl, false, rfl, iteF (iteF k)⟩
    | keep j =>
      refine ⟨_, rfl, _, 0, 104, rfl, rfl, hz, hx, _, _, rfl, rfl, false, (by decide +kernel), iteF ?_⟩
      refine ⟨_, rfl, _, 0, 104, rfl, rfl, hz, hx, _, _, rfl, rfl, false, (by decide +kernel), iteF ?_⟩
      exact ⟨_, rfl, _, rfl, hz, rfl, false, rfl, iteF (iteF k)⟩
theorem sl_x (st : Stch) : V.bl (decide (V.str (cutS (mkS st) (some 1) (some 2)) = V.str "x")) = V.bl (match st with | .grow _ _ => true | .keep .x => true | .fetch .x => true | _ => false) := by
  cases st with
  | plain f => cases f <;> decide +kernel
  | slip => decide +kernel
  | over => decide +kernel
  | off => decide +kernel
  | lean m r f => revert m; cases r <;> cases f <;> decide +kernel
  | grow m f => revert m; cases f <;> decide +kernel
  | cross a b v f => revert a b; cases v <;> cases f <;> decide +kernel
  | keep j => cases j <;> decide +kernel
  | fetch j => cases j <;> decide +kernel
theorem sc_law_gives : FnScope ["_law_mark_here"] ["_law_mark_here"] (defScope s_law_gives) := ⟨rfl, rfl, rfl, by decide +kernel, rfl, by decide +kernel, by decide +kernel⟩
theorem ok_law_gives (Z : Zt K mg) : Cal P w K mg base "_law_gives" 1 ["_law_mark_here"] (spNum Stch.gives) := by
  obtain ⟨fd, F⟩ := Z.du_law_gives
  refine ⟨Z.gl_law_gives, F.kp, fd, F.ok sc_law_gives (fun vs H Q E h => ?_) (fun cdv A outer s H vs Q E hr h => ?_), FunD.bindsN F fun _ _ _ _ _ _ us hl => match us, hl with | [_], _ => rfl⟩
  · obtain ⟨st, rfl, _⟩ := h
    rfl
  · obtain ⟨st, rfl, k⟩ := h
    refine ⟨_, PSs.nox (pss_cons (ps_if (pt_cmpR op_in_sign (pe_ix ix_str (pv 0) pe_int (fun _ _ => rfl)) pe_str (by rfl)) (pss_one (ps_ret (pe_op op_add (pe_callTy call_int_str (by rfl) Z.fr_int (by decide +kernel) (pa_cons (pe_ix ix_str (pv 0) pe_int (fun _ _ => rfl)) pa_nil)) (pe_callTy call_int_str (by rfl) Z.fr_int (by decide +kernel) (pa_cons (pe_ix ix_str (pv 0) pe_int (fun _ _ => rfl)) pa_nil))))) pss_nil)
      (pss_cons (ps_if (pt_cmpR op_in_sign (pe_ix ix_str (pv 0) pe_int (fun _ _ => rfl)) pe_str (by rfl)) (pss_one (ps_ret pe_int)) pss_nil)
      (pss_cons (ps_if (PW.pt (pw_and (pt_cmpR op_in_sign (pe_ix ix_str (pv 0) pe_int (fun _ _ => rfl)) pe_str (by rfl)) (pw_and1 (pt_cmpR op_eq (pe_slice sl_str (pv 0) (po_some pe_int) (po_some pe_int)) pe_str (nomark _))))) (pss_one (ps_ret (pe_callTy call_int_str (by rfl) Z.fr_int (by decide +kernel) (pa_cons (pe_ix ix_str (pv 0) pe_int (fun _ _ => rfl)) pa_nil)))) pss_nil)
      (pss_one (ps_ret pe_int))))), ?_⟩
    have hz := mk_small st
    have hx := mk_fst st
    have hs := sl_x st
    cases st with
    | cross a b v f =>
      refine ⟨_, rfl, _, 0, (if f then 99 else 113), rfl, rfl, hz, hx, _, _, rfl, rfl, true, (by cases f <;> decide +kernel), iteT ?_⟩
      refine ⟨_, rfl, _, 1, 49 + a.val, rfl, rfl, hz, rfl, _, _, rfl, dig4 a, (by show 1 ≤ 640; decide), _, rfl, _, 3, 49 + b.val, rfl, rfl, hz, rfl, _, _, rfl, dig4 b, (by show 1 ≤ 640; decide), _, _, rfl, rfl, ?_⟩
      have e : (Stch.gives (.cross a b v f) : Int) = ((a.val + 1 : Nat) : Int) + ((b.val + 1 : Nat) : Int) := by
        simp [Stch.gives, Stch.ties, Stch.draws]; omega
      rw [e] at k
      exact k
    | off =>
      refine ⟨_, rfl, _, 0, 98, rfl, rfl, hz, hx, _, _, rfl, rfl, false, (by decide +kernel), iteF ?_⟩
      refine ⟨_, rfl, _, 0, 98, rfl, rfl, hz, hx, _, _, rfl, rfl, true, (by decide +kernel), iteT ?_⟩
      exact k
    | keep j =>
      refine ⟨_, rfl, _, 0, 104, rfl, rfl, hz, hx, _, _, rfl, rfl, false, (by decide +kernel), iteF ?_⟩
      refine ⟨_, rfl, _, 0, 104, rfl, rfl, hz, hx, _, _, rfl, rfl, true, (by decide +kernel), iteT ?_⟩
      exact k
    | grow m f =>
      refine ⟨_, rfl, _, 0, (if f then 107 else 112), rfl, rfl, hz, hx, _, _, rfl, rfl, false, (by cases f <;> decide +kernel), iteF ?_⟩
      refine ⟨_, rfl, _, 0, (if f then 107 else 112), rfl, rfl, hz, hx, _, _, rfl, rfl, false, (by cases f <;> decide +kernel), iteF ?_⟩
      refine ⟨_, rfl, _, 0, (if f then 107 else 112), rfl, rfl, hz, hx, _, _, rfl, rfl, true, (by cases f <;> decide +kernel), iteT ?_⟩
      refine ⟨_, rfl, 1, rfl, 2, rfl, _, rfl, hz, rfl, true, hs, iteT ?_⟩
      refine ⟨_, rfl, _, 2, 50 + m.val, rfl, rfl, hz, rfl, _, _, rfl, dig3 m, (by show 1 ≤ 640; decide), ?_⟩
      have e : (Stch.gives (.grow m f) : Int) = ((m.val + 2 : Nat) : Int) := by
        simp [Stch.gives, Stch.ties, Stch.draws]
      rw [e] at k
      exact k
    | plain f =>
      refine ⟨_, rfl, _, 0, (if f then 107 else 112), rfl, rfl, hz, hx, _, _, rfl, rfl, false, (by cases f <;> decide +kernel), iteF ?_⟩
      refine ⟨_, rfl, _, 0, (if f then 107 else 112), rfl, rfl, hz, hx, _, _, rfl, rfl, false, (by cases f <;> decide +kernel), iteF ?_⟩
      refine ⟨_, rfl, _, 0, (if f then 107 else 112), rfl, rfl, hz, hx, _, _, rfl, rfl, true, (by cases f <;> decide +kernel), iteT ?_⟩
      exact ⟨_, rfl, 1, rfl, 2, rfl, _, rfl, hz, rfl, false, hs, iteF k⟩
    | lean m r f =>
      refine ⟨_, rfl, _, 0, (if f then 107 else 112), rfl, rfl, hz, hx, _, _, rfl, rfl, false, (by cases f <;> decide +kernel), iteF ?_⟩
      refine ⟨_, rfl, _, 0, (if f then 107 else 112), rfl, rfl, hz, hx, _, _, rfl, rfl, false, (by cases f <;> decide +kernel), iteF ?_⟩
      refine ⟨_, rfl, _, 0, (if f then 107 else 112), rfl, rfl, hz, hx, _, _, rfl, rfl, true, (by cases f <;> decide +kernel), iteT ?_⟩
      exact ⟨_, rfl, 1, rfl, 2, rfl, _, rfl, hz, rfl, false, hs, iteF k⟩
    | slip =>
      refine ⟨_, rfl, _, 0, 115, rfl, rfl, hz, hx, _, _, rfl, rfl, false, (by decide +kernel), iteF ?_⟩
      refine ⟨_, rfl, _, 0, 115, rfl, rfl, hz, hx, _, _, rfl, rfl, false, (by decide +kernel), iteF ?_⟩
      exact ⟨_, rfl, _, 0, 115, rfl, rfl, hz, hx, _, _, rfl, rfl, false, (by decide +kernel), iteF (iteF k)⟩
    | over =>
      refine ⟨_, rfl, _, 0, 111, rfl, rfl, hz, hx, _, _, rfl, rfl, false, (by decide +kernel), iteF ?_⟩
      refine ⟨_, rfl, _, 0, 111, rfl, rfl, hz, hx, _, _, rfl, rfl, false, (by decide +kernel), iteF ?_⟩
      exact ⟨_, rfl, _, 0, 111, rfl, rfl, hz, hx, _, _, rfl, rfl, false, (by decide +kernel), iteF (iteF k)⟩
    | fetch j =>
      refine ⟨_, rfl, _, 0, 102, rfl, rfl, hz, hx, _, _, rfl, rfl, false, (by decide +kernel), iteF ?_⟩
      refine ⟨_, rfl, _, 0, 102, rfl, rfl, hz, hx, _, _, rfl, rfl, false, (by decide +kernel), iteF ?_⟩
      exact ⟨_, rfl, _, 0, 102, rfl, rfl, hz, hx, _, _, rfl, rfl, false, (by decide +kernel), iteF (iteF k)⟩
end K34
set_option autoImplicit true
set_option Elab.async false
set_option linter.all false
set_option maxRecDepth 100000
set_option maxHeartbeats 4000000
namespace K34
open PySem PySem.Spec PyProof.Rows L2
variable {P : Program} {w : World} {K : PySem.W.Frag} {mg : Str → Option Value} {base : Heap}

/-! ### _law_mark -/
def f3 (x : Int) : Fin 3 := ⟨(x % 3).toNat, by omega⟩
def f4 (x : Int) : Fin 4 := ⟨(x % 4).toNat, by omega⟩
def w4 (m : Fin 4) : W := match m with | 0 => .w | 1 => .x | 2 => .y | 3 => .z
def b2 (x : Int) : Bool := decide (x % 2 = 0)
def stOf (c : Int) : Stch :=
  if c % 9 = 0 then .plain (b2 (c / 9)) else if c % 9 = 1 then .slip else if c % 9 = 2 then .over
  else if c % 9 < 5 then .lean (f3 (c / 9 / 2)) (b2 (c / 9 / 6)) (b2 (c / 9))
  else if c % 9 = 5 then .grow (f3 (c / 9 / 2)) (b2 (c / 9))
  else if c % 9 < 8 then .cross (f4 (c / 9 / 2)) (f4 (c / 9 / 16)) (b2 (c / 9 / 8)) (b2 (c / 9))
  else if c / 9 % 4 < 2 then .off
  else if c / 9 % 2 = 0 then .keep (w4 (f4 (c / 9 / 4))) else .fetch (w4 (f4 (c / 9 / 4)))
theorem f3_eq (x : Int) : x % 3 = ((f3 x).val : Int) := by show x % 3 = ((x % 3).toNat : Int); omega
theorem f4_eq (x : Int) : x % 4 = ((f4 x).val : Int) := by show x % 4 = ((x % 4).toNat : Int); omega
theorem at2 (z : Str) (a b : Nat) (h : z.cps.toList = [a, b]) (x : Int) : atI z.cps.toList (x % 2) = some (if b2 x then a else b) := by
  rw [h]
  have : x % 2 = 0 ∨ x % 2 = 1 := by omega
  unfold b2
  rcases this with e | e
  · rw [e]; rfl
  · rw [e]; rfl
theorem at4w (m : Fin 4) : atI ("wxyz" : Str).cps.toList ((m.val : Nat) : Int) = some (w4 m).code := by revert m; decide +kernel
theorem sLean : ∀ (m : Fin 3) (r f : Bool), ((⟨#[if f then 107 else 112]⟩ : Str) ++ (toString ((2 : Int) + (m.val : Int)) : Str)) ++ (⟨#[if r then 114 else 108]⟩ : Str) = mkS (.lean m r f) := by decide +kernel
theorem sGrow : ∀ (m : Fin 3) (f : Bool), ((⟨#[if f then 107 else 112]⟩ : Str) ++ ("x" : Str)) ++ (toString ((2 : Int) + (m.val : Int)) : Str) = mkS (.grow m f) := by decide +kernel
theorem sCross : ∀ (a b : Fin 4) (v f : Bool), (((⟨#[if f then 99 else 113]⟩ : Str) ++ (toString ((1 : Int) + (a.val : Int)) : Str)) ++ (⟨#[if v then 102 else 98]⟩ : Str)) ++ (toString ((1 : Int) + (b.val : Int)) : Str) = mkS (.cross a b v f) := by decide +kernel
theorem p2 : (0 : Int) < 2 := by decide
theorem p3 : (0 : Int) < 3 := by decide
theorem p4 : (0 : Int) < 4 := by decide
theorem p9 : (0 : Int) < 9 := by decide
theorem lg3 : ∀ m : Fin 3, ((2 : Int) + (m.val : Int)).natAbs.log2 < 1920 := by decide +kernel
theorem lg4 : ∀ m : Fin 4, ((1 : Int) + (m.val : Int)).natAbs.log2 < 1920 := by decide +kernel
theorem ln3 : ∀ m : Fin 3, (toString ((2 : Int) + (m.val : Int)) : Str).length = 1 := by decide +kernel
theorem ln4 : ∀ m : Fin 4, (toString ((1 : Int) + (m.val : Int)) : Str).length = 1 := by decide +kernel
theorem sKeep : ∀ m : Fin 4, (⟨#[104]⟩ : Str) ++ (⟨#[(w4 m).code]⟩ : Str) = mkS (.keep (w4 m)) := by decide +kernel
theorem sFetch : ∀ m : Fin 4, (⟨#[102]⟩ : Str) ++ (⟨#[(w4 m).code]⟩ : Str) = mkS (.fetch (w4 m)) := by decide +kernel
theorem zLean : ∀ (m : Fin 3) (r f : Bool), ((⟨#[if f then 107 else 112]⟩ : Str) ++ (toString ((2 : Int) + (m.val : Int)) : Str)).length + (⟨#[if r then 114 else 108]⟩ : Str).length ≤ 100000 := by decide +kernel
theorem zGrow : ∀ (m : Fin 3) (f : Bool), ((⟨#[if f then 107 else 112]⟩ : Str) ++ ("x" : Str)).length + (toString ((2 : Int) + (m.val : Int)) : Str).length ≤ 100000 := by decide +kernel
theorem zGrow1 : ∀ (f : Bool), (⟨#[if f then 107 else 112]⟩ : Str).length + ("x" : Str).length ≤ 100000 := by decide +kernel
theorem zCr1 : ∀ (a : Fin 4) (f : Bool), (⟨#[if f then 99 else 113]⟩ : Str).length + (toString ((1 : Int) + (a.val : Int)) : Str).length ≤ 100000 := by decide +kernel
theorem zCr2 : ∀ (a : Fin 4) (v f : Bool), ((⟨#[if f then 99 else 113]⟩ : Str) ++ (toString ((1 : Int) + (a.val : Int)) : Str)).length + (⟨#[if v then 102 else 98]⟩ : Str).length ≤ 100000 := by decide +kernel
theorem zCr3 : ∀ (a b : Fin 4) (v f : Bool), (((⟨#[if f then 99 else 113]⟩ : Str) ++ (toString ((1 : Int) + (a.val : Int)) : Str)) ++ (⟨#[if v then 102 else 98]⟩ : Str)).length + (toString ((1 : Int) + (b.val : Int)) : Str).length ≤ 100000 := by decide +kernel
def spMarkOf : Sp := fun vs H Q _ => ∃ c : Int, vs = [.int c] ∧ ∀ H', Same H H' → Q (.str (mkS (stOf c))) H'
theorem sc_law_mark : FnScope ["_law_cell", "_law_more", "_law_side"] ["_law_cell"] (defScope s_law_mark) := ⟨rfl, rfl, rfl, by decide +kernel, rfl, by decide +kernel, by decide +kernel⟩
theorem ok_law_mark (Z : Zt K mg) : Cal P w K mg base "_law_mark" 1 ["_law_cell"] spMarkOf := by
  obtain ⟨fd, F⟩ := Z.du_law_mark
  refine ⟨Z.gl_law_mark, F.kp, fd, F.ok sc_law_mark (fun vs H Q E h => ?_) (fun cdv A outer s H vs Q E hr h => ?_), FunD.bindsN F fun _ _ _ _ _ _ us hl => match us, hl with | [_], _ => rfl⟩
  · obtain ⟨c, rfl, _⟩ := h
    rfl
  · obtain ⟨c, rfl, k⟩ := h
    refine ⟨_, PSs.nox (pss_cons (ps_set (i := 1) sc_law_mark.nd rfl (Or.inl rfl) (pe_op op_fdiv (pv 0) pe_int))
      (pss_cons (ps_set (i := 2) sc_law_mark.nd rfl (Or.inl rfl) (pe_op op_mod (pv 1) pe_int))
      (pss_cons (ps_if (pt_cmpR op_lt (pe_op op_mod (pv 0) pe_int) pe_int (nomark _)) (pss_one (ps_ret (pe_ix ix_list (pe_lst (pa_cons pe_str (pa_cons pe_str (pa_cons pe_str (pa_cons pe_str pa_nil))))) (pe_op op_add (pe_op op_mul pe_int (pe_op op_mod (pv 0) pe_int)) (pv 2)) (fun _ _ => rfl)))) pss_nil)
      (pss_cons (ps_if (pt_cmpR op_eq (pe_op op_mod (pv 0) pe_int) pe_int (nomark _)) (pss_one (ps_ret pe_str)) pss_nil)
      (pss_cons (ps_if (pt_cmpR op_lt (pe_op op_mod (pv 0) pe_int) pe_int (nomark _)) (pss_one (ps_ret (pe_op op_add_str (pe_op op_add_str (pe_ix ix_str pe_str (pv 2) (fun _ _ => rfl)) (pe_callTy call_str_int (by rfl) Z.fr_str (by decide +kernel) (pa_cons (pe_op op_add pe_int (pe_op op_mod (pe_op op_fdiv (pv 1) pe_int) pe_int)) pa_nil))) (pe_ix ix_str pe_str (pe_op op_mod (pe_op op_fdiv (pv 1) pe_int) pe_int) (fun _ _ => rfl))))) pss_nil)
      (pss_cons (ps_if (pt_cmpR op_eq (pe_op op_mod (pv 0) pe_int) pe_int (nomark _)) (pss_one (ps_ret (pe_op op_add_str (pe_op op_add_str (pe_ix ix_str pe_str (pv 2) (fun _ _ => rfl)) pe_str) (pe_callTy call_str_int (by rfl) Z.fr_str (by decide +kernel) (pa_cons (pe_op op_add pe_int (pe_op op_mod (pe_op op_fdiv (pv 1) pe_int) pe_int)) pa_nil))))) pss_nil)
      (pss_cons (ps_if (pt_cmpR op_lt (pe_op op_mod (pv 0) pe_int) pe_int (nomark _)) (pss_one (ps_ret (pe_op op_add_str (pe_op op_add_str (pe_op op_add_str (pe_ix ix_str pe_str (pv 2) (fun _ _ => rfl)) (pe_callTy call_str_int (by rfl) Z.fr_str (by decide +kernel) (pa_cons (pe_op op_add pe_int (pe_op op_mod (pe_op op_fdiv (pv 1) pe_int) pe_int)) pa_nil))) (pe_ix ix_str pe_str (pe_op op_mod (pe_op op_fdiv (pv 1) pe_int) pe_int) (fun _ _ => rfl))) (pe_callTy call_str_int (by rfl) Z.fr_str (by decide +kernel) (pa_cons (pe_op op_add pe_int (pe_op op_mod (pe_op op_fdiv (pv 1) pe_int) pe_int)) pa_nil))))) pss_nil)
      (pss_cons (ps_if (pt_cmpR op_lt (pe_op op_mod (pv 1) pe_int) pe_int (nomark _)) (pss_one (ps_ret pe_str)) pss_nil)
      (pss_one (ps_ret (pe_op op_add_str (pe_ix ix_str pe_str (pe_op op_mod (pv 1) pe_int) (fun _ _ => rfl)) (pe_ix ix_str pe_str (pe_op op_mod (pe_op op_fdiv (pv 1) pe_int) pe_int) (fun _ _ => rfl))))))))))))), ?_⟩
    refine ⟨_, rfl, c, 9, rfl, rfl, ⟨by decide, by decide⟩, _, rfl, c / 9, 2, rfl, rfl, p2, ?_⟩
    have hside := at2 "kp" 107 112 (by decide +kernel) (c / 9)
    have hside2 := at2 "cq" 99 113 (by decide +kernel) (c / 9)
    by_cases h2 : c % 9 < 2
    · refine ⟨_, rfl, c, 9, rfl, rfl, p9, _, _, rfl, rfl, _, rfl, iteU (decide_eq_true h2) ?_⟩
      refine ⟨(by show 4 ≤ sizeLine; decide), fun l hl => ?_⟩
      have hr : c % 9 = 0 ∨ c % 9 = 1 := by omega
      have hs : c / 9 % 2 = 0 ∨ c / 9 % 2 = 1 := by omega
      refine ⟨_, rfl, c, 9, rfl, rfl, p9, _, _, rfl, rfl, ?_, _, rfl, _, _, rfl, rfl, l, _, 2 * (c % 9) + c / 9 % 2, .str (mkS (stOf c)), rfl, rfl, SqL.of upd_same, ?_, k _ (sm_new hl)⟩
      · exact .inl ⟨by decide, by decide⟩
      · have e0 : c % 9 = 0 → stOf c = .plain (b2 (c / 9)) := fun e => if_pos e
        have e1 : c % 9 = 1 → stOf c = .slip := fun e => (if_neg (by omega)).trans (if_pos e)
        rcases hr with e | e
        · rw [e0 e]
          unfold b2
          rcases hs with e2 | e2 <;> rw [e, e2] <;> decide +kernel
        · rw [e1 e]
          rcases hs with e2 | e2 <;> rw [e, e2] <;> decide +kernel
    refine ⟨_, rfl, c, 9, rfl, rfl, p9, _, _, rfl, rfl, _, rfl, iteE (decide_eq_false h2) ?_⟩
    by_cases h3 : c % 9 = 2
    · refine ⟨_, rfl, c, 9, rfl, rfl, p9, rfl, _, rfl, iteU (decide_eq_true (congrArg V.int h3)) ?_⟩
      have e : mkS (stOf c) = "o" := by
        unfold stOf
        rw [if_neg (by omega), if_neg (by omega), if_pos h3]
        decide +kernel
      rw [e] at k
      exact k _ (Same.refl _)
    refine ⟨_, rfl, c, 9, rfl, rfl, p9, rfl, _, rfl, iteE (decide_eq_false fun e => h3 (V.int.inj e)) ?_⟩
    by_cases h4 : c % 9 < 5
    · refine ⟨_, rfl, c, 9, rfl, rfl, p9, _, _, rfl, rfl, _, rfl, iteU (decide_eq_true h4) ?_⟩
      have hm := f3_eq (c / 9 / 2)
      have hrl := at2 "rl" 114 108 (by decide +kernel) (c / 9 / 6)
      refine ⟨_, rfl, "kp", c / 9 % 2, _, rfl, rfl, (by decide +kernel), hside, _, rfl, c / 9, 2, rfl, rfl, ⟨by decide, by decide⟩, c / 9 / 2, 3, rfl, rfl, p3, 2, c / 9 / 2 % 3, rfl, rfl, 2 + c / 9 / 2 % 3, rfl, ?_, _, _, rfl, rfl, ?_, _, rfl, c / 9, 6, rfl, rfl, ⟨by decide, by decide⟩, c / 9 / 6, 2, rfl, rfl, p2, "rl", c / 9 / 6 % 2, _, rfl, rfl, (by decide +kernel), hrl, _, _, rfl, rfl, ?_, ?_⟩
      · rw [hm]; exact lg3 _
      · rw [hm]; have := ln3 (f3 (c / 9 / 2)); show 1 + _ ≤ _; rw [this]; decide
      · rw [hm]; exact szl (zLean _ _ _)
      · have e : stOf c = .lean (f3 (c / 9 / 2)) (b2 (c / 9 / 6)) (b2 (c / 9)) := by
          unfold stOf
          rw [if_neg (by omega), if_neg (by omega), if_neg h3, if_pos h4]
        rw [e, ← sLean, ← hm] at k
        exact k _ (Same.refl _)
    refine ⟨_, rfl, c, 9, rfl, rfl, p9, _, _, rfl, rfl, _, rfl, iteE (decide_eq_false h4) ?_⟩
    by_cases h5 : c % 9 = 5
    · refine ⟨_, rfl, c, 9, rfl, rfl, p9, rfl, _, rfl, iteU (decide_eq_true (congrArg V.int h5)) ?_⟩
      have hm := f3_eq (c / 9 / 2)
      refine ⟨_, rfl, "kp", c / 9 % 2, _, rfl, rfl, (by decide +kernel), hside, _, _, rfl, rfl, szl (zGrow1 _), _, rfl, c / 9, 2, rfl, rfl, ⟨by decide, by decide⟩, c / 9 / 2, 3, rfl, rfl, p3, 2, c / 9 / 2 % 3, rfl, rfl, 2 + c / 9 / 2 % 3, rfl, ?_, _, _, rfl, rfl, ?_, ?_⟩
      · rw [hm]; exact lg3 _
      · rw [hm]; exact szl (zGrow _ _)
      · have e : stOf c = .grow (f3 (c / 9 / 2)) (b2 (c / 9)) := by
          unfold stOf
          rw [if_neg (by omega), if_neg (by omega), if_neg h3, if_neg h4, if_pos h5]
        rw [e, ← sGrow, ← hm] at k
        exact k _ (Same.refl _)
    refine ⟨_, rfl, c, 9, rfl, rfl, p9, rfl, _, rfl, iteE (decide_eq_false fun e => h5 (V.int.inj e)) ?_⟩
    by_cases h6 : c % 9 < 8
    · refine ⟨_, rfl, c, 9, rfl, rfl, p9, _, _, rfl, rfl, _, rfl, iteU (decide_eq_true h6) ?_⟩
      have hm := f4_eq (c / 9 / 2)
      have hm2 := f4_eq (c / 9 / 16)
      have hfb := at2 "fb" 102 98 (by decide +kernel) (c / 9 / 8)
      refine ⟨_, rfl, "cq", c / 9 % 2, _, rfl, rfl, (by decide +kernel), hside2, _, rfl, c / 9, 2, rfl, rfl, ⟨by decide, by decide⟩, c / 9 / 2, 4, rfl, rfl, p4, 1, c / 9 / 2 % 4, rfl, rfl, 1 + c / 9 / 2 % 4, rfl, ?_, _, _, rfl, rfl, ?_,
        _, rfl, c / 9, 8, rfl, rfl, ⟨by decide, by decide⟩, c / 9 / 8, 2, rfl, rfl, p2, "fb", c / 9 / 8 % 2, _, rfl, rfl, (by decide +kernel), hfb, _, _, rfl, rfl, ?_, _, rfl, c / 9, 16, rfl, rfl, ⟨by decide, by decide⟩, c / 9 / 16, 4, rfl, rfl, p4, 1, c / 9 / 16 % 4, rfl, rfl, 1 + c / 9 / 16 % 4, rfl, ?_, _, _, rfl, rfl, ?_, ?_⟩
      · rw [hm]; exact lg4 _
      · rw [hm]; exact szl (zCr1 _ _)
      · rw [hm]; exact szl (zCr2 _ _ _)
      · rw [hm2]; exact lg4 _
      · rw [hm, hm2]; exact szl (zCr3 _ _ _ _)
      · have e : stOf c = .cross (f4 (c / 9 / 2)) (f4 (c / 9 / 16)) (b2 (c / 9 / 8)) (b2 (c / 9)) := by
          unfold stOf
          rw [if_neg (by omega), if_neg (by omega), if_neg h3, if_neg h4, if_neg h5, if_pos h6]
        rw [e, ← sCross, ← hm, ← hm2] at k
        exact k _ (Same.refl _)
    refine ⟨_, rfl, c, 9, rfl, rfl, p9, _, _, rfl, rfl, _, rfl, iteE (decide_eq_false h6) ?_⟩
    by_cases h7 : c / 9 % 4 < 2
    · refine ⟨_, rfl, c / 9, 4, rfl, rfl, p4, _, _, rfl, rfl, _, rfl, iteU (decide_eq_true h7) ?_⟩
      have e : mkS (stOf c) = "b" := by
        unfold stOf
        rw [if_neg (by omega), if_neg (by omega), if_neg h3, if_neg h4, if_neg h5, if_neg h6, if_pos h7]
        decide +kernel
      rw [e] at k
      exact k _ (Same.refl _)
    refine ⟨_, rfl, c / 9, 4, rfl, rfl, p4, _, _, rfl, rfl, _, rfl, iteE (decide_eq_false h7) ?_⟩
    have hm := f4_eq (c / 9 / 4)
    have hhf := at2 "hf" 104 102 (by decide +kernel) (c / 9)
    have hw : atI ("wxyz" : Str).cps.toList (c / 9 / 4 % 4) = some (w4 (f4 (c / 9 / 4))).code := by rw [hm]; exact at4w _
    refine ⟨_, rfl, c / 9, 2, rfl, rfl, p2, "hf", c / 9 % 2, _, rfl, rfl, (by decide +kernel), hhf, _, rfl, c / 9, 4, rfl, rfl, ⟨by decide, by decide⟩, c / 9 / 4, 4, rfl, rfl, p4, "wxyz", c / 9 / 4 % 4, _, rfl, rfl, (by decide +kernel), hw, _, _, rfl, rfl, (by show 1 + 1 ≤ sizeLine; decide), ?_⟩
    have e : stOf c = if c / 9 % 2 = 0 then .keep (w4 (f4 (c / 9 / 4))) else .fetch (w4 (f4 (c / 9 / 4))) := by
      unfold stOf
      rw [if_neg (by omega), if_neg (by omega), if_neg h3, if_neg h4, if_neg h5, if_neg h6, if_neg h7]
    rw [e] at k
    unfold b2
    by_cases h8 : c / 9 % 2 = 0
    · rw [if_pos h8, ← sKeep] at k
      rw [decide_eq_true h8]
      exact k _ (Same.refl _)
    · rw [if_neg h8, ← sFetch] at k
      rw [decide_eq_false h8]
      exact k _ (Same.refl _)
end K34
set_option autoImplicit true
set_option Elab.async false
set_option linter.all false
set_option maxRecDepth 100000
set_option maxHeartbeats 4000000
namespace K34
open PySem PySem.Spec PyProof.Rows L2
variable {P : Program} {w : World} {K : PySem.W.Frag} {mg : Str → Option Value} {base : Heap}

/-! ### dicts whose keys are texts -/
def dS (ks : List Str) (f : Str → V) : List (Key × V) := ks.map fun s => (.inr s, f s)
def insS (ks : List Str) (s : Str) : List Str := if s ∈ ks then ks else ks ++ [s]
def updS (f : Str → V) (s : Str) (v : V) : Str → V := fun u => if u = s then v else f u
section
variable {ks : List Str} {f : Str → V} {s u : Str} {v : V}
theorem mem_insS : u ∈ insS ks s ↔ u ∈ ks ∨ u = s := by
  unfold insS
  by_cases h : s ∈ ks
  · rw [if_pos h]
    exact ⟨.inl, fun q => q.elim id fun e => by rw [e]; exact h⟩
  · rw [if_neg h, List.mem_append, List.mem_singleton]
theorem insS_in (h : s ∈ ks) : insS ks s = ks := if_pos h
theorem insS_len : (insS ks s).length ≤ ks.length + 1 := by
  unfold insS
  by_cases h : s ∈ ks
  · rw [if_pos h]; omega
  · rw [if_neg h, List.length_append]; exact Nat.le_refl _
theorem dS_val : ∀ {ks : List Str}, valV (dS ks f) (.inr s) = if s ∈ ks then some (f s) else none
  | [] => rfl
  | m :: r => by
    show valV ((.inr m, f m) :: dS r f) (.inr s) = _
    by_cases e : m = s
    · subst e
      rw [valV_pos rfl, if_pos List.mem_cons_self]
    · rw [valV_neg fun q => e (Sum.inr.inj q), dS_val]
      have : s ∈ m :: r ↔ s ∈ r := by rw [List.mem_cons]; exact ⟨fun h => h.resolve_left fun q => e q.symm, .inr⟩
      by_cases q : s ∈ r
      · rw [if_pos q, if_pos (this.mpr q)]
      · rw [if_neg q, if_neg fun z => q (this.mp z)]
theorem dS_in (h : s ∈ ks) : valV (dS ks f) (.inr s) = some (f s) := by rw [dS_val, if_pos h]
theorem dS_put : putK (dS ks f) (.inr s) v = dS (insS ks s) (updS f s v) := by
  unfold insS
  by_cases h : s ∈ ks
  · rw [if_pos h]
    unfold putK
    rw [if_pos (by rw [valV_any, dS_in h]; rfl)]
    unfold dS updS
    rw [List.map_map]
    refine List.map_congr_left fun m hm => ?_
    by_cases e : m = s
    · subst e; simp
    · have : ¬ (Sum.inr m : Key) = Sum.inr s := fun q => e (Sum.inr.inj q)
      simp [e, this]
  · rw [if_neg h, putK_new v (by rw [dS_val, if_neg h])]
    unfold dS updS
    rw [List.map_append]
    congr 1
    · refine List.map_congr_left fun m hm => ?_
      have q : ¬ m = s := fun e => h (by rw [← e]; exact hm)
      simp only [if_neg q]
    · simp
theorem dS_len : (dS ks f).length = ks.length := by simp [dS]
end
theorem merge_app : ∀ (more acc : List (Key × V)), ((acc ++ more).map (·.1)).Nodup → mergeK acc more = acc ++ more
  | [], acc, _ => by rw [List.append_nil]; rfl
  | (k, v) :: more, acc, h => by
    have hk : valV acc k = none := by
      have h2 : k ∉ acc.map (·.1) := fun q => by
        rw [List.map_append, List.nodup_append] at h
        exact h.2.2 k q k (by simp) rfl
      have h3 := valV_any k acc
      cases e : valV acc k with
      | none => rfl
      | some z =>
        rw [e] at h3
        obtain ⟨kv, h4, h5⟩ := List.any_eq_true.mp (h3.trans rfl)
        exact absurd (List.mem_map.mpr ⟨kv, h4, of_decide_eq_true h5⟩) h2
    show mergeK (putK acc k v) more = _
    rw [putK_new v hk, merge_app more (acc ++ [(k, v)]) (by rw [List.append_assoc]; exact h), List.append_assoc]
    rfl

/-! ### the room in the heap -/
def strS (st : Stch) : V := .str (mkS st)
structure RmF (f : Str → V) (h o t g : Nat) (na ra la pa : Addr) : Prop where
  hand : f "hand" = .int (h : Int)
  other : f "other" = .int (o : Int)
  taken : f "taken" = .int (t : Int)
  given : f "given" = .int (g : Int)
  now : f "now" = .ref na
  rows : f "rows" = .ref ra
  lies : f "lies" = .ref la
  put : f "put" = .ref pa
section
variable {f : Str → V} {h o t g n : Nat} {na ra la pa q : Addr}
theorem RmF.sHand (F : RmF f h o t g na ra la pa) : RmF (updS f "hand" (.int (n : Int))) n o t g na ra la pa :=
  ⟨if_pos rfl, (if_neg (by decide +kernel)).trans F.other, (if_neg (by decide +kernel)).trans F.taken, (if_neg (by decide +kernel)).trans F.given, (if_neg (by decide +kernel)).trans F.now, (if_neg (by decide +kernel)).trans F.rows, (if_neg (by decide +kernel)).trans F.lies, (if_neg (by decide +kernel)).trans F.put⟩
theorem RmF.sOther (F : RmF f h o t g na ra la pa) : RmF (updS f "other" (.int (n : Int))) h n t g na ra la pa :=
  ⟨(if_neg (by decide +kernel)).trans F.hand, if_pos rfl, (if_neg (by decide +kernel)).trans F.taken, (if_neg (by decide +kernel)).trans F.given, (if_neg (by decide +kernel)).trans F.now, (if_neg (by decide +kernel)).trans F.rows, (if_neg (by decide +kernel)).trans F.lies, (if_neg (by decide +kernel)).trans F.put⟩
theorem RmF.sTaken (F : RmF f h o t g na ra la pa) : RmF (updS f "taken" (.int (n : Int))) h o n g na ra la pa :=
  ⟨(if_neg (by decide +kernel)).trans F.hand, (if_neg (by decide +kernel)).trans F.other, if_pos rfl, (if_neg (by decide +kernel)).trans F.given, (if_neg (by decide +kernel)).trans F.now, (if_neg (by decide +kernel)).trans F.rows, (if_neg (by decide +kernel)).trans F.lies, (if_neg (by decide +kernel)).trans F.put⟩
theorem RmF.sGiven (F : RmF f h o t g na ra la pa) : RmF (updS f "given" (.int (n : Int))) h o t n na ra la pa :=
  ⟨(if_neg (by decide +kernel)).trans F.hand, (if_neg (by decide +kernel)).trans F.other, (if_neg (by decide +kernel)).trans F.taken, if_pos rfl, (if_neg (by decide +kernel)).trans F.now, (if_neg (by decide +kernel)).trans F.rows, (if_neg (by decide +kernel)).trans F.lies, (if_neg (by decide +kernel)).trans F.put⟩
theorem RmF.sNow (F : RmF f h o t g na ra la pa) : RmF (updS f "now" (.ref q)) h o t g q ra la pa :=
  ⟨(if_neg (by decide +kernel)).trans F.hand, (if_neg (by decide +kernel)).trans F.other, (if_neg (by decide +kernel)).trans F.taken, (if_neg (by decide +kernel)).trans F.given, if_pos rfl, (if_neg (by decide +kernel)).trans F.rows, (if_neg (by decide +kernel)).trans F.lies, (if_neg (by decide +kernel)).trans F.put⟩
theorem RmF.sPut (F : RmF f h o t g na ra la pa) : RmF (updS f "put" (.ref q)) h o t g na ra la q :=
  ⟨(if_neg (by decide +kernel)).trans F.hand, (if_neg (by decide +kernel)).trans F.other, (if_neg (by decide +kernel)).trans F.taken, (if_neg (by decide +kernel)).trans F.given, (if_neg (by decide +kernel)).trans F.now, (if_neg (by decide +kernel)).trans F.rows, (if_neg (by decide +kernel)).trans F.lies, if_pos rfl⟩
end
def keys8 : List Str := ["hand", "other", "taken", "given", "now", "rows", "lies", "put"]
/-- the room's dict -/
def RmO (o : HO) (h oth t g : Nat) (na ra la pa : Addr) : Prop := ∃ ks f, o = .dK (dS ks f) ∧ (∀ s, s ∈ keys8 → s ∈ ks) ∧ ks.length ≤ 8 ∧ RmF f h oth t g na ra la pa
/-- numbers by keepers -/
def CntC (o : HO) (c : W → Option Nat) : Prop := ∃ ks f, o = .dK (dcw ks f) ∧ (ks.Nodup ∧ none ∉ ks) ∧ ∀ k : W, (some k ∈ ks → ∃ n : Nat, f (some k) = .int (n : Int) ∧ c k = some n) ∧ (some k ∉ ks → c k = none)
def RowQ (B G : Hp) (v : V) (q : List Stch × Bool) : Prop := ∃ t n, v = .ref t ∧ G t = some (.tup [.ref n, .bl q.2]) ∧ G n = some (.lst (q.1.map strS)) ∧ B t = none ∧ B n = none
theorem RowQ.mono {B G G' : Hp} {v : V} {q : List Stch × Bool} (s : Same G G') (h : RowQ B G v q) : RowQ B G' v q := let ⟨t, n, e, a, b, c⟩ := h; ⟨t, n, e, s _ _ a, s _ _ b, c⟩
structure RmA where
  na : Addr
  ra : Addr
  la : Addr
  pa : Addr
def RmA.own (A : RmA) (a : Addr) : List Addr := [a, A.na, A.ra, A.la, A.pa]
structure RmR (B H : Hp) (a : Addr) (A : RmA) (rm : Rm) : Prop where
  ne : (A.own a).Nodup
  ob : ∃ o, H a = some o ∧ RmO o rm.hand rm.other rm.taken rm.given A.na A.ra A.la A.pa
  nw : H A.na = some (.lst (rm.now.map strS))
  rs : ∃ vs, H A.ra = some (.lst vs) ∧ All2 (RowQ B (msk (A.own a) H)) vs rm.rows
  li : ∃ o, H A.la = some o ∧ CntC o rm.lies
  pu : ∃ o, H A.pa = some o ∧ CntC o rm.put
  fo : ∀ b, b ∈ A.own a → B b = none
  bs : Same B H
theorem CntC.get {H : Hp} {a : Addr} {o : HO} {c : W → Option Nat} (h : CntC o c) (e : H a = some o) (k : W) : DGet H a (.str k.str) ((c k).map fun n => V.int (n : Int)) := by
  obtain ⟨ks, f, rfl, n, q⟩ := h
  have := DGet.k (k := keyW (some k)) e
  by_cases z : some k ∈ ks
  · obtain ⟨m, e1, e2⟩ := (q k).1 z
    rw [dcw_in z, e1] at this
    rw [e2]; exact this
  · rw [dcw_not z] at this
    rw [(q k).2 z]; exact this
theorem CntC.isD {H : Hp} {a : Addr} {o : HO} {c : W → Option Nat} (h : CntC o c) (e : H a = some o) : IsD H a := by
  obtain ⟨ks, f, rfl, n, q⟩ := h
  exact .inl ⟨_, .inl e⟩
theorem CntC.put {H : Hp} {a : Addr} {o : HO} {c : W → Option Nat} (h : CntC o c) (e : H a = some o) (k : W) (n : Nat) : ∃ o', DPut H a (.str k.str) (.int (n : Int)) (upd H a o') ∧ CntC o' (setP c k n) := by
  obtain ⟨ks, f, rfl, nd, q⟩ := h
  refine ⟨_, DPut.k (k := keyW (some k)) e (by rw [dcw_len]; exact szt (Nat.le_trans (len5 nd.1) (by decide))), insO ks (some k), _, by rw [dcw_put], ⟨nodup_insO nd.1, fun z => (mem_insO.mp z).elim nd.2 fun z => by cases z⟩, fun j => ⟨fun hj => ?_, fun hj => ?_⟩⟩
  · unfold setP
    by_cases z : j = k
    · subst z
      exact ⟨n, by simp, by simp⟩
    · obtain ⟨b, e1, e2⟩ := (q j).1 ((mem_insO.mp hj).resolve_right fun y => z (Option.some.inj y))
      exact ⟨b, by simp [z, e1], by simp [z, e2]⟩
  · have z : j ≠ k := fun y => hj (mem_insO.mpr (.inr (by rw [y])))
    unfold setP
    rw [if_neg z]
    exact (q j).2 fun y => hj (mem_insO.mpr (.inl y))
theorem RmR.grow {B H H' : Hp} {a : Addr} {A : RmA} {rm : Rm} (s : Same H H') (h : RmR B H a A rm) : RmR B H' a A rm := by
  obtain ⟨o1, e1, q1⟩ := h.ob
  obtain ⟨v2, e2, q2⟩ := h.rs
  obtain ⟨o3, e3, q3⟩ := h.li
  obtain ⟨o4, e4, q4⟩ := h.pu
  exact ⟨h.ne, ⟨o1, s _ _ e1, q1⟩, s _ _ h.nw, ⟨v2, s _ _ e2, q2.mono fun _ _ => RowQ.mono (msk_mono s)⟩, ⟨o3, s _ _ e3, q3⟩, ⟨o4, s _ _ e4, q4⟩, h.fo, h.bs.trans s⟩
structure RmN (a na ra la pa : Addr) : Prop where
  an : a ≠ na
  ar : a ≠ ra
  al : a ≠ la
  ap : a ≠ pa
  nr : na ≠ ra
  nl : na ≠ la
  np : na ≠ pa
  rl : ra ≠ la
  rp : ra ≠ pa
  lp : la ≠ pa
theorem RmR.nes {B H : Hp} {a : Addr} {A : RmA} {rm : Rm} (h : RmR B H a A rm) : RmN a A.na A.ra A.la A.pa := by
  have n := h.ne
  unfold RmA.own at n
  simp only [List.nodup_cons, List.mem_cons, List.not_mem_nil, or_false, not_or] at n
  exact ⟨n.1.1, n.1.2.1, n.1.2.2.1, n.1.2.2.2, n.2.1.1, n.2.1.2.1, n.2.1.2.2, n.2.2.1.1, n.2.2.1.2, n.2.2.2.1⟩
section
variable {B H : Hp} {a : Addr} {A : RmA} {rm : Rm}
theorem RmR.mk_ {H' : Hp} (R : RmR B H a A rm) {rm' : Rm} (sm : msk (A.own a) H' = msk (A.own a) H) (ob : ∃ o, H' a = some o ∧ RmO o rm'.hand rm'.other rm'.taken rm'.given A.na A.ra A.la A.pa) (nw : H' A.na = some (.lst (rm'.now.map strS)))
    (rs : ∃ vs, H' A.ra = some (.lst vs) ∧ All2 (RowQ B (msk (A.own a) H)) vs rm'.rows) (li : ∃ o, H' A.la = some o ∧ CntC o rm'.lies) (pu : ∃ o, H' A.pa = some o ∧ CntC o rm'.put) : RmR B H' a A rm' :=
  ⟨R.ne, ob, nw, by rw [sm]; exact rs, li, pu, R.fo, fun b u e => by
    have h1 : b ∉ A.own a := fun q => by rw [R.fo b q] at e; cases e
    have h2 : msk (A.own a) H' b = some u := by rw [sm, msk_out h1]; exact R.bs _ _ e
    exact (msk_of h2).1⟩
theorem RmR.sOb (R : RmR B H a A rm) {o : HO} {h oth t g : Nat} (ho : RmO o h oth t g A.na A.ra A.la A.pa) : RmR B (upd H a o) a A { rm with hand := h, other := oth, taken := t, given := g } := by
  have n := R.nes
  exact R.mk_ (msk_upd (by simp [RmA.own])) ⟨o, upd_same, ho⟩ (by rw [upd_ne n.an.symm]; exact R.nw) (by rw [upd_ne n.ar.symm]; exact R.rs) (by rw [upd_ne n.al.symm]; exact R.li) (by rw [upd_ne n.ap.symm]; exact R.pu)
theorem RmR.sNow (R : RmR B H a A rm) {l : List Stch} : RmR B (upd H A.na (.lst (l.map strS))) a A { rm with now := l } := by
  have n := R.nes
  exact R.mk_ (msk_upd (by simp [RmA.own])) (by rw [upd_ne n.an]; exact R.ob) upd_same (by rw [upd_ne n.nr.symm]; exact R.rs) (by rw [upd_ne n.nl.symm]; exact R.li) (by rw [upd_ne n.np.symm]; exact R.pu)
theorem RmR.sRows (R : RmR B H a A rm) {vs : List V} {l : List (List Stch × Bool)} (h : All2 (RowQ B (msk (A.own a) H)) vs l) : RmR B (upd H A.ra (.lst vs)) a A { rm with rows := l } := by
  have n := R.nes
  exact R.mk_ (msk_upd (by simp [RmA.own])) (by rw [upd_ne n.ar]; exact R.ob) (by rw [upd_ne n.nr]; exact R.nw) ⟨vs, upd_same, h⟩ (by rw [upd_ne n.rl.symm]; exact R.li) (by rw [upd_ne n.rp.symm]; exact R.pu)
theorem RmR.sLies (R : RmR B H a A rm) {o : HO} {c : W → Option Nat} (h : CntC o c) : RmR B (upd H A.la o) a A { rm with lies := c } := by
  have n := R.nes
  exact R.mk_ (msk_upd (by simp [RmA.own])) (by rw [upd_ne n.al]; exact R.ob) (by rw [upd_ne n.nl]; exact R.nw) (by rw [upd_ne n.rl]; exact R.rs) ⟨o, upd_same, h⟩ (by rw [upd_ne n.lp.symm]; exact R.pu)
theorem RmR.sPut (R : RmR B H a A rm) {o : HO} {c : W → Option Nat} (h : CntC o c) : RmR B (upd H A.pa o) a A { rm with put := c } := by
  have n := R.nes
  exact R.mk_ (msk_upd (by simp [RmA.own])) (by rw [upd_ne n.ap]; exact R.ob) (by rw [upd_ne n.np]; exact R.nw) (by rw [upd_ne n.rp]; exact R.rs) (by rw [upd_ne n.lp]; exact R.li) ⟨o, upd_same, h⟩
end
/-- what the room's dict tells -/
theorem RmO.get {H : Hp} {a : Addr} {ob : HO} {h o t g : Nat} {na ra la pa : Addr} (R : RmO ob h o t g na ra la pa) (e : H a = some ob) :
    DGet H a (.str "hand") (some (.int (h : Int))) ∧ DGet H a (.str "other") (some (.int (o : Int))) ∧ DGet H a (.str "taken") (some (.int (t : Int))) ∧ DGet H a (.str "given") (some (.int (g : Int))) ∧
    DGet H a (.str "now") (some (.ref na)) ∧ DGet H a (.str "rows") (some (.ref ra)) ∧ DGet H a (.str "lies") (some (.ref la)) ∧ DGet H a (.str "put") (some (.ref pa)) := by
  obtain ⟨ks, f, rfl, m, l, F⟩ := R
  have key : ∀ s, s ∈ keys8 → DGet H a (.str s) (some (f s)) := fun s hs => by
    have := DGet.k (k := .inr s) e
    rw [dS_in (m s hs)] at this
    exact this
  refine ⟨?_, ?_, ?_, ?_, ?_, ?_, ?_, ?_⟩
  · rw [← F.hand]; exact key _ (by decide +kernel)
  · rw [← F.other]; exact key _ (by decide +kernel)
  · rw [← F.taken]; exact key _ (by decide +kernel)
  · rw [← F.given]; exact key _ (by decide +kernel)
  · rw [← F.now]; exact key _ (by decide +kernel)
  · rw [← F.rows]; exact key _ (by decide +kernel)
  · rw [← F.lies]; exact key _ (by decide +kernel)
  · rw [← F.put]; exact key _ (by decide +kernel)
theorem RmO.put {H : Hp} {a : Addr} {ob : HO} {h o t g : Nat} {na ra la pa : Addr} (R : RmO ob h o t g na ra la pa) (e : H a = some ob) {s : Str} (hs : s ∈ keys8) (v : V) :
    ∃ ob', DPut H a (.str s) v (upd H a ob') ∧ ∃ ks f, ob = .dK (dS ks f) ∧ ob' = .dK (dS ks (updS f s v)) ∧ (∀ s, s ∈ keys8 → s ∈ ks) ∧ ks.length ≤ 8 ∧ RmF f h o t g na ra la pa := by
  obtain ⟨ks, f, rfl, m, l, F⟩ := R
  refine ⟨_, DPut.k (k := .inr s) e (by rw [dS_len]; exact szt (by omega)), ks, f, rfl, ?_, m, l, F⟩
  rw [dS_put, insS_in (m s hs)]
theorem or_val {ta tb : TE} {σ : L2.St} {H : Hp} {Q : VK} {c d : Bool} (h1 : ∀ Q : VK, Q (.bl c) H → ta σ H Q) (h2 : ∀ Q : VK, Q (.bl d) H → tb σ H Q) (k : Q (.bl (c || d)) H) : tOrV ta tb σ H Q := by
  refine h1 _ ⟨c, rfl, ?_⟩
  cases c with
  | true => exact iteT k
  | false => exact iteF (h2 _ k)
theorem p5 : (0 : Int) < 5 := by decide

/-! ### _law_row_end -/
def spRowEnd : Sp := fun vs H Q _ => ∃ (a : Addr) (A : RmA) (rm : Rm) (B : Hp), vs = [.ref a] ∧ RmR B H a A rm ∧ rm.taken ≤ rm.hand ∧ rm.rows.length ≤ 10000 ∧
  ∀ H' A', Same (msk (A.own a) H) (msk (A'.own a) H') → RmR B H' a A' (rowEnd rm) → Q .non H'
theorem sc_law_row_end : FnScope ["_law_room", "_law_rest", "_law_keeper"] ["_law_room"] (defScope s_law_row_end) := ⟨rfl, rfl, rfl, by decide +kernel, rfl, by decide +kernel, by decide +kernel⟩
theorem ok_law_row_end (Z : Zt K mg) : Cal P w K mg base "_law_row_end" 1 ["_law_room"] spRowEnd := by
  obtain ⟨fd, F⟩ := Z.du_law_row_end
  refine ⟨Z.gl_law_row_end, F.kp, fd, F.ok sc_law_row_end (fun vs H Q E h => ?_) (fun cdv A outer s H vs Q E hr h => ?_), FunD.bindsN F fun _ _ _ _ _ _ us hl => match us, hl with | [_], _ => rfl⟩
  · obtain ⟨a, A, rm, B, rfl, _⟩ := h
    rfl
  · obtain ⟨a, ⟨na, ra, la, pa⟩, rm, B, rfl, R, hle, hrl, k⟩ := h
    have hu := hu_of hr
    refine ⟨_, PSs.nox (pss_cons (ps_set (i := 1) sc_law_row_end.nd rfl (Or.inl rfl) (pe_op op_sub (pe_dget hu (pv 0) pe_str (fun _ _ => rfl)) (pe_dget hu (pv 0) pe_str (fun _ _ => rfl))))
      (pss_cons (ps_expr (pe_bm PySem.F.plainAttrs_list PySem.F.slot_list_append PySem.F.type_list_append mt_append (pe_dget hu (pv 0) pe_str (fun _ _ => rfl)) (pa_cons (pe_tup (pa_cons (pe_dget hu (pv 0) pe_str (fun _ _ => rfl)) (pa_cons (pe_or (pe_cmpR op_gt (pv 1) pe_int (nomark _)) (pe_one (pe_cmpR op_eq (pe_op op_mod (pe_op op_add (pe_dget hu (pv 0) pe_str (fun _ _ => rfl)) (pe_op op_mul pe_int (pe_dget hu (pv 0) pe_str (fun _ _ => rfl)))) pe_int) pe_int (nomark _)))) pa_nil))) pa_nil)))
      (pss_cons (ps_dput hu (pv 0) pe_str (pe_op op_add (pe_dget hu (pv 0) pe_str (fun _ _ => rfl)) (pe_dget hu (pv 0) pe_str (fun _ _ => rfl))) rfl)
      (pss_cons (ps_dput hu (pv 0) pe_str (pv 1) rfl)
      (pss_cons (ps_lock (ps_for PassesOwn.never rfl (pi_keys (pe_dget hu (pv 0) pe_str (fun _ _ => rfl))) (pg_name (i := 2) sc_law_row_end.nd rfl (Or.inl rfl)) (pss_one (ps_dput hu (pe_dget hu (pv 0) pe_str (fun _ _ => rfl)) (pv 2) (pe_dget hu (pe_dget hu (pv 0) pe_str (fun _ _ => rfl)) (pv 2) (fun _ _ => rfl)) rfl))))
      (pss_one (ps_expr (pe_bm PySem.F.plainAttrs_dict PySem.F.slot_dict_update PySem.F.type_dict_update mt_dupd (pv 0) (pa_cons (pe_disp (pps_cons pe_str (pe_lst pa_nil) (pps_cons pe_str pe_int (pps_cons pe_str pe_int (pps_cons pe_str pe_dnewK pps_nil)))) (by rfl) (by rfl) (fun z => by cases z) (by decide)) pa_nil))))))))), ?_⟩
    obtain ⟨ob, hob, hO⟩ := R.ob
    obtain ⟨g1, g2, g3, g4, g5, g6, g7, g8⟩ := hO.get hob
    obtain ⟨rvs, hra, hrA⟩ := R.rs
    refine ⟨_, rfl, a, _, rfl, g1, _, rfl, a, _, rfl, g3, _, _, rfl, rfl, ?_⟩
    refine ⟨_, rfl, a, _, rfl, g6, .inl ⟨rfl, _, SqL.of hra⟩, _, rfl, a, _, rfl, g5, ?_⟩
    refine or_val (c := decide (0 < (rm.hand : Int) - rm.taken)) (d := decide (V.int (((rm.taken : Int) + 2 * rm.given) % 5) = V.int 1)) (fun Q q => ⟨_, rfl, _, _, rfl, rfl, q⟩) (fun Q q => ⟨_, rfl, a, _, rfl, g3, _, rfl, a, _, rfl, g4, 2, _, rfl, rfl, .inl ⟨by decide, by decide⟩, _, _, rfl, rfl, _, 5, rfl, rfl, p5, rfl, q⟩) ?_
    have eturn : (decide (0 < (rm.hand : Int) - rm.taken) || decide (V.int (((rm.taken : Int) + 2 * rm.given) % 5) = V.int 1)) = turnOf rm := by
      unfold turnOf
      congr 1
      · rw [Bool.eq_iff_iff, decide_eq_true_eq, decide_eq_true_eq]; omega
      · rw [Bool.eq_iff_iff, decide_eq_true_eq, decide_eq_true_eq, V.int.injEq]; omega
    rw [eturn]
    refine ⟨(by show 2 ≤ sizeLine; decide), fun t ht => ⟨ra, rvs, .ref t, rfl, rfl, sm_new ht _ _ hra, by rw [hrA.1]; exact szt (by omega), ?_⟩⟩
    have n := R.nes
    have n_an := n.an
    have n_ar := n.ar
    have n_al := n.al
    have n_ap := n.ap
    have n_nr := n.nr
    have n_nl := n.nl
    have n_np := n.np
    have n_rl := n.rl
    have n_rp := n.rp
    have n_lp := n.lp
    obtain ⟨lo, hla, hL⟩ := R.li
    obtain ⟨po, hpa, hP⟩ := R.pu
    have hna := R.nw
    have ta := ne_of_none hob ht
    have tr := ne_of_none hra ht
    have tl := ne_of_none hla ht
    have tp := ne_of_none hpa ht
    have tn := ne_of_none hna ht
    have a1 : (upd (upd H t (.tup [.ref na, .bl (turnOf rm)])) ra (.lst (rvs ++ [.ref t]))) a = some ob := by rw [upd_ne n_ar, upd_ne ta]; exact hob
    have r1 : (upd (upd H t (.tup [.ref na, .bl (turnOf rm)])) ra (.lst (rvs ++ [.ref t]))) ra = some (.lst (rvs ++ [.ref t])) := upd_same
    have l1 : (upd (upd H t (.tup [.ref na, .bl (turnOf rm)])) ra (.lst (rvs ++ [.ref t]))) la = some lo := by rw [upd_ne n_rl.symm, upd_ne tl]; exact hla
    have q1 : (upd (upd H t (.tup [.ref na, .bl (turnOf rm)])) ra (.lst (rvs ++ [.ref t]))) pa = some po := by rw [upd_ne n_rp.symm, upd_ne tp]; exact hpa
    have t1 : (upd (upd H t (.tup [.ref na, .bl (turnOf rm)])) ra (.lst (rvs ++ [.ref t]))) t = some (.tup [.ref na, .bl (turnOf rm)]) := by rw [upd_ne tr.symm, upd_same]
    have f1 : ∀ b u, b ≠ ra → H b = some u → (upd (upd H t (.tup [.ref na, .bl (turnOf rm)])) ra (.lst (rvs ++ [.ref t]))) b = some u := fun b u c e => by rw [upd_ne c, upd_ne (ne_of_none e ht)]; exact e
    generalize upd (upd H t (.tup [.ref na, .bl (turnOf rm)])) ra (.lst (rvs ++ [.ref t])) = H1 at a1 r1 l1 q1 t1 f1 ⊢
    obtain ⟨_, b2, _, b4, _⟩ := hO.get a1
    obtain ⟨ob1, d1, ks1, fo1, eo1, eo1', m1, ln1, F1⟩ := hO.put a1 (s := "hand") (by decide +kernel) (.int ((rm.other : Int) + rm.given))
    refine ⟨_, rfl, a, _, rfl, b2, _, rfl, a, _, rfl, b4, _, _, rfl, rfl, _, rfl, a, _, rfl, d1, ?_⟩
    have hO1 : RmO ob1 (rm.other + rm.given) rm.other rm.taken rm.given na ra la pa := ⟨ks1, _, eo1', m1, ln1, F1.sHand (n := rm.other + rm.given)⟩
    obtain ⟨ob2, d2, ks2, fo2, eo2, eo2', m2, ln2, F2⟩ := hO1.put (H := upd H1 a ob1) (a := a) upd_same (s := "other") (by decide +kernel) (.int ((rm.hand : Int) - rm.taken))
    refine ⟨_, rfl, _, rfl, a, _, rfl, d2, ?_⟩
    have ehm : (rm.hand : Int) - rm.taken = ((rm.hand - rm.taken : Nat) : Int) := by omega
    have hO2 : RmO ob2 (rm.other + rm.given) (rm.hand - rm.taken) rm.taken rm.given na ra la pa := ⟨ks2, _, eo2', m2, ln2, by rw [ehm]; exact F2.sOther (n := rm.hand - rm.taken)⟩
    rw [upd_upd]
    have a3 : (upd H1 a ob2) a = some ob2 := upd_same
    have l3 : (upd H1 a ob2) la = some lo := by rw [upd_ne n_al.symm]; exact l1
    have q3 : (upd H1 a ob2) pa = some po := by rw [upd_ne n_ap.symm]; exact q1
    have f3 : ∀ b, b ≠ a → (upd H1 a ob2) b = H1 b := fun b c => upd_ne c
    generalize upd H1 a ob2 = H3 at a3 l3 q3 f3 ⊢
    obtain ⟨pks, pf, rfl, pnd, pq⟩ := hP
    -- what was put lies there now
    refine ⟨pa, _, q3, True.intro, fun od => ?_⟩
    have af : (upd H3 pa (.frz od (.dK (dcw pks pf)))) a = some ob2 := by rw [upd_ne n_ap]; exact a3
    have lf : (upd H3 pa (.frz od (.dK (dcw pks pf)))) la = some lo := by rw [upd_ne n_lp]; exact l3
    have pfz : (upd H3 pa (.frz od (.dK (dcw pks pf)))) pa = some (.frz od (.dK (dcw pks pf))) := upd_same
    obtain ⟨_, _, _, _, _, _, _, c8⟩ := hO2.get af
    refine ⟨_, rfl, a, _, rfl, c8, pa, od, rfl, .inl ⟨_, upd_same, for_it walk_keys (fun i σ H' => ∃ (b : Option V) (o : HO), σ = [some (.ref a), some (.int ((rm.hand : Int) - rm.taken)), b] ∧ H' = upd (upd H3 pa (.frz od (.dK (dcw pks pf)))) la o ∧
      CntC o (fun j => if some j ∈ pks.take i then rm.put j else rm.lies j)) ?_ ?_ ?_ ?_⟩⟩
    · refine ⟨none, lo, rfl, ?_, ?_⟩
      · funext b
        by_cases c : b = la
        · rw [c, upd_same, lf]
        · rw [upd_ne c]
      · have e0 : (fun j : K34.W => if some j ∈ pks.take 0 then rm.put j else rm.lies j) = rm.lies := by
          funext j; simp
        rw [e0]; exact hL
    · rintro i σ H' hi ⟨b, o, rfl, rfl, _⟩
      rw [upd_ne n_lp.symm]; exact pfz
    · rintro i x σ H' H'' hi ⟨b, o, rfl, rfl, hC⟩ ⟨rfl, kk, vv, hk, rfl⟩
      unfold dcw at hk
      rw [List.getElem?_map] at hk
      cases eo : pks[i]? with
      | none => rw [eo] at hk; cases hk
      | some u =>
        rw [eo] at hk
        cases hk
        have hu' := List.mem_of_getElem? eo
        cases u with
        | none => exact absurd hu' pnd.2
        | some j =>
          obtain ⟨m, e1, e2⟩ := (pq j).1 hu'
          have ai : (upd (upd H3 pa (.frz od (.dK (dcw pks pf)))) la o) a = some ob2 := by rw [upd_ne n_al]; exact af
          have pi : (upd (upd H3 pa (.frz od (.dK (dcw pks pf)))) la o) pa = some (.frz od (.dK (dcw pks pf))) := by rw [upd_ne n_lp.symm]; exact pfz
          obtain ⟨_, _, _, _, _, _, c7, c8⟩ := hO2.get ai
          obtain ⟨o', dp, hC'⟩ := hC.put (H := upd (upd H3 pa (.frz od (.dK (dcw pks pf)))) la o) (a := la) upd_same j m
          refine ⟨_, rfl, a, _, rfl, c8, _, rfl, pa, pf (some j), rfl, .inl ⟨_, keyW (some j), .inr ⟨od, pi⟩, rfl, (dcw_in (f := pf) hu').symm⟩, _, rfl, a, _, rfl, c7, _, rfl, la, _, rfl, by rw [e1]; exact dp, _, o', rfl, ?_, ?_⟩
          · rw [upd_upd]
          · have e0 : (fun i2 : K34.W => if some i2 ∈ pks.take (i + 1) then rm.put i2 else rm.lies i2) = setP (fun i2 => if some i2 ∈ pks.take i then rm.put i2 else rm.lies i2) j m := by
              funext i2
              unfold setP
              rw [take_snoc eo]
              by_cases z : i2 = j
              · subst z; simp [e2]
              · simp [z]
            rw [e0]; exact hC'
    · rintro σ H' ⟨b, o, rfl, rfl, hC⟩
      rw [dcw_len, List.take_length] at hC
      have e0 : (fun j : K34.W => if some j ∈ pks then rm.put j else rm.lies j) = (rowEnd rm).lies := by
        funext j
        show _ = (match rm.put j with | some n => some n | none => rm.lies j : Option Nat)
        by_cases z : some j ∈ pks
        · obtain ⟨m, _, e2⟩ := (pq j).1 z
          rw [if_pos z, e2]
        · rw [if_neg z, (pq j).2 z]
      rw [e0] at hC
      refine ⟨by rw [upd_ne n_lp.symm]; exact pfz, ?_⟩
      have eH : upd (upd (upd H3 pa (.frz od (.dK (dcw pks pf)))) la o) pa (.dK (dcw pks pf)) = upd H3 la o := by
        funext b
        by_cases c : b = pa
        · subst c
          rw [upd_same, upd_ne n_lp.symm, q3]
        · rw [upd_ne c]
          by_cases c2 : b = la
          · rw [c2, upd_same, upd_same]
          · rw [upd_ne c2, upd_ne c, upd_ne c2]
      rw [eH]
      have a4 : (upd H3 la o) a = some ob2 := by rw [upd_ne n_al]; exact a3
      have l4 : (upd H3 la o) la = some o := upd_same
      have r4 : (upd H3 la o) ra = some (.lst (rvs ++ [.ref t])) := by rw [upd_ne n_rl, f3 _ n_ar.symm]; exact r1
      have t4 : (upd H3 la o) t = some (.tup [.ref na, .bl (turnOf rm)]) := by rw [upd_ne tl.symm, f3 _ ta.symm]; exact t1
      have f4 : ∀ b u, b ≠ a → b ≠ ra → b ≠ la → H b = some u → (upd H3 la o) b = some u := fun b u c1 c2 c3 e => by rw [upd_ne c3, f3 b c1]; exact f1 b u c2 e
      generalize upd H3 la o = H4 at a4 l4 r4 t4 f4 ⊢
      refine ⟨_, rfl, .inr (.inr (.inl ⟨rfl, .inl ⟨_, by rw [a4, eo2']⟩⟩)), fun D hD => ⟨Nat.zero_le _, fun n2 hn2 p2 hp2 => ?_⟩⟩
      have s5 := ((sm_new (o := .dK []) hD).trans (sm_new (o := .lst []) hn2)).trans (sm_new (o := .dK []) hp2)
      have D5 : (upd (upd (upd H4 D (.dK [])) n2 (.lst [])) p2 (.dK [])) D = some (.dK []) := (sm_new hp2) _ _ ((sm_new hn2) _ _ upd_same)
      have n5 : (upd (upd (upd H4 D (.dK [])) n2 (.lst [])) p2 (.dK [])) n2 = some (.lst []) := (sm_new hp2) _ _ upd_same
      have p5' : (upd (upd (upd H4 D (.dK [])) n2 (.lst [])) p2 (.dK [])) p2 = some (.dK []) := upd_same
      have fn2 : H4 n2 = none := (sm_new (o := .dK []) hD).free hn2
      have fp2 : H4 p2 = none := ((sm_new (o := .dK []) hD).trans (sm_new (o := .lst []) hn2)).free hp2
      have dn : n2 ≠ D := fun e => by rw [e, upd_same] at hn2; cases hn2
      have dp : p2 ≠ n2 := fun e => by rw [e, upd_same] at hp2; cases hp2
      have dp2 : p2 ≠ D := fun e => by rw [e, sm_new hn2 _ _ upd_same] at hp2; cases hp2
      have aD : a ≠ D := ne_of_none a4 hD
      have em : mergeK [] [((.inr "now" : Key), V.ref n2), (.inr "taken", V.int 0), (.inr "given", V.int 0), (.inr "put", V.ref p2)] = [(.inr "now", V.ref n2), (.inr "taken", V.int 0), (.inr "given", V.int 0), (.inr "put", V.ref p2)] := merge_app _ _ (by
        show List.Nodup [(.inr "now" : Key), .inr "taken", .inr "given", .inr "put"]
        decide +kernel)
      refine ⟨D5, [(.inr "now", .ref n2), (.inr "taken", .int 0), (.inr "given", .int 0), (.inr "put", .ref p2)], rfl, (by show 4 ≤ 15; decide), ?_⟩
      rw [em]
      refine ⟨a, D, _, _, rfl, rfl, by rw [upd_ne aD, s5 _ _ a4, eo2'], upd_same, aD, ?_, ?_⟩
      · rw [dS_len]; exact szl (by show ks2.length + 4 ≤ _; omega)
      have emm : mergeK (dS ks2 (updS fo2 "other" (V.int ((rm.hand : Int) - rm.taken)))) [(.inr "now", V.ref n2), (.inr "taken", V.int 0), (.inr "given", V.int 0), (.inr "put", V.ref p2)] =
          dS ks2 (updS (updS (updS (updS (updS fo2 "other" (V.int ((rm.hand : Int) - rm.taken))) "now" (.ref n2)) "taken" (.int ((0 : Nat) : Int))) "given" (.int ((0 : Nat) : Int))) "put" (.ref p2)) := by
        show putK (putK (putK (putK (dS ks2 _) (.inr "now") _) (.inr "taken") _) (.inr "given") _) (.inr "put") _ = _
        rw [dS_put, insS_in (m2 _ (by decide +kernel)), dS_put, insS_in (m2 _ (by decide +kernel)), dS_put, insS_in (m2 _ (by decide +kernel)), dS_put, insS_in (m2 _ (by decide +kernel))]
        rfl
      rw [emm]
      have hF : RmF (updS (updS (updS (updS (updS fo2 "other" (V.int ((rm.hand : Int) - rm.taken))) "now" (.ref n2)) "taken" (.int ((0 : Nat) : Int))) "given" (.int ((0 : Nat) : Int))) "put" (.ref p2)) (rm.other + rm.given) (rm.hand - rm.taken) 0 0 n2 ra la p2 := by
        rw [ehm]
        exact ((((F2.sOther (n := rm.hand - rm.taken)).sNow (q := n2)).sTaken (n := 0)).sGiven (n := 0)).sPut (q := p2)
      have nan : a ≠ n2 := ne_of_none a4 fn2
      have nap : a ≠ p2 := ne_of_none a4 fp2
      have nrn : ra ≠ n2 := ne_of_none r4 fn2
      have nrp : ra ≠ p2 := ne_of_none r4 fp2
      have nln : la ≠ n2 := ne_of_none l4 fn2
      have nlp : la ≠ p2 := ne_of_none l4 fp2
      have gen : ∀ b u, b ≠ a → b ≠ D → (upd (upd (upd H4 D (.dK [])) n2 (.lst [])) p2 (.dK [])) b = some u → ∀ o o', (upd (upd (upd (upd (upd H4 D (.dK [])) n2 (.lst [])) p2 (.dK [])) D o) a o') b = some u := fun b u c1 c2 e o o' => by
        rw [upd_ne c1, upd_ne c2]; exact e
      have g4 : ∀ b u, b ≠ a → H4 b = some u → ∀ o o', (upd (upd (upd (upd (upd H4 D (.dK [])) n2 (.lst [])) p2 (.dK [])) D o) a o') b = some u := fun b u c1 e o o' => gen b u c1 (ne_of_none e hD) (s5 _ _ e) o o'
      have sfin : ∀ o o', Same (msk [a, na, ra, la, pa] H) (msk [a, n2, ra, la, p2] (upd (upd (upd (upd (upd H4 D (.dK [])) n2 (.lst [])) p2 (.dK [])) D o) a o')) := fun o o' b u e => by
        obtain ⟨e1, e2⟩ := msk_of e
        simp only [List.mem_cons, List.not_mem_nil, or_false, not_or] at e2
        have e4 := f4 b u e2.1 e2.2.2.1 e2.2.2.2.1 e1
        rw [msk_out (by simp [e2, ne_of_none e4 fn2, ne_of_none e4 fp2])]
        exact g4 b u e2.1 e4 o o'
      have sBo : Same B (msk [a, na, ra, la, pa] H) := fun b u e => by
        rw [msk_out fun q => by rw [R.fo b q] at e; cases e]
        exact R.bs _ _ e
      have sB4 : Same B H4 := fun b u e => by
        have h1 : b ∉ RmA.own ⟨na, ra, la, pa⟩ a := fun q => by rw [R.fo b q] at e; cases e
        unfold RmA.own at h1
        simp only [List.mem_cons, List.not_mem_nil, or_false, not_or] at h1
        exact f4 b u h1.1 h1.2.2.1 h1.2.2.2.1 (R.bs _ _ e)
      refine k _ ⟨n2, ra, la, p2⟩ (sfin _ _) ⟨?_, ⟨_, upd_same, ks2, _, rfl, m2, ln2, hF⟩, ?_, ⟨rvs ++ [.ref t], ?_, ?_⟩, ⟨o, ?_, hC⟩, ⟨.dK [], ?_, [], fun _ => .non, rfl, ⟨List.nodup_nil, by simp⟩, fun j => ⟨fun h => absurd h (by simp), fun _ => rfl⟩⟩, ?_, sBo.trans ((sfin _ _).trans msk_same)⟩
      · show [a, n2, ra, la, p2].Nodup
        simp [nan, n_ar, n_al, nap, nrn.symm, nln.symm, dp.symm, n_rl, nrp, nlp]
      · exact gen _ _ nan.symm dn n5 _ _
      · exact g4 _ _ n_ar.symm r4 _ _
      · show All2 _ (rvs ++ [.ref t]) (rm.rows ++ [(rm.now, turnOf rm)])
        refine (hrA.mono fun _ _ => RowQ.mono (sfin _ _)).snoc ⟨t, na, rfl, ?_, ?_, R.bs.free ht, R.fo na (by simp [RmA.own])⟩
        · show msk [a, n2, ra, la, p2] _ t = _
          rw [msk_out (by simp [ta.symm, tr.symm, tl.symm, ne_of_none t4 fn2, ne_of_none t4 fp2])]
          exact g4 _ _ ta.symm t4 _ _
        · have e4 := f4 na _ n_an.symm n_nr n_nl hna
          show msk [a, n2, ra, la, p2] _ na = _
          rw [msk_out (by simp [n_an.symm, n_nr, n_nl, ne_of_none e4 fn2, ne_of_none e4 fp2])]
          exact g4 _ _ n_an.symm e4 _ _
      · exact g4 _ _ n_al.symm l4 _ _
      · exact gen _ _ nap.symm dp2 p5' _ _
      · intro b hb
        unfold RmA.own at hb
        simp only [List.mem_cons, List.not_mem_nil, or_false] at hb
        rcases hb with rfl | rfl | rfl | rfl | rfl
        · exact R.fo _ (by simp [RmA.own])
        · exact sB4.free fn2
        · exact R.fo _ (by simp [RmA.own])
        · exact R.fo _ (by simp [RmA.own])
        · exact sB4.free fp2
end K34
set_option autoImplicit true
set_option Elab.async false
set_option linter.all false
set_option maxRecDepth 100000
set_option maxHeartbeats 4000000
namespace K34
open PySem PySem.Spec PyProof.Rows L2
variable {P : Program} {w : World} {K : PySem.W.Frag} {mg : Str → Option Value} {base : Heap}

/-! ### _law_add -/
theorem cut_keep (k : W) : cutS (mkS (.keep k)) (some 1) none = k.str := by cases k <;> decide +kernel
theorem cut_fetch (k : W) : cutS (mkS (.fetch k)) (some 1) none = k.str := by cases k <;> decide +kernel
theorem cd1 (c n : Nat) (z : Str) (h : z = ⟨#[n]⟩) : decide (V.str ⟨#[c]⟩ = V.str z) = decide (c = n) := by
  rw [h, Bool.eq_iff_iff, decide_eq_true_eq, decide_eq_true_eq]
  constructor
  · intro e
    have e2 := congrArg (fun s : Str => s.cps.toList) (V.str.inj e)
    simpa using e2
  · rintro rfl; rfl
theorem fst_f (st : Stch) : decide (V.str ⟨#[fstC st]⟩ = V.str "f") = (match st with | .fetch _ => true | _ => false) := by
  rw [cd1 _ 102 "f" (by decide +kernel)]
  cases st with
  | plain f => cases f <;> rfl
  | lean m r f => cases f <;> rfl
  | grow m f => cases f <;> rfl
  | cross a b v f => cases f <;> rfl
  | _ => rfl
theorem fst_h (st : Stch) : decide (V.str ⟨#[fstC st]⟩ = V.str "h") = (match st with | .keep _ => true | _ => false) := by
  rw [cd1 _ 104 "h" (by decide +kernel)]
  cases st with
  | plain f => cases f <;> rfl
  | lean m r f => cases f <;> rfl
  | grow m f => cases f <;> rfl
  | cross a b v f => cases f <;> rfl
  | _ => rfl
def isK : Stch → Bool
  | .keep _ => true
  | _ => false
theorem isH_eq (st : Stch) : decide (V.str ⟨#[fstC st]⟩ = V.str "h") = isK st := by rw [fst_h]; cases st <;> rfl
def spAdd : Sp := fun vs H Q _ => ∃ (a : Addr) (A : RmA) (rm : Rm) (st : Stch) (B : Hp), vs = [.ref a, .str (mkS st)] ∧ RmR B H a A rm ∧ (∀ k, rm.liesN k ≤ 10000) ∧ rm.now.length ≤ 10000 ∧
  ∀ H', Same (msk (A.own a) H) (msk (A.own a) H') → RmR B H' a A (addM rm st) → Q .non H'
theorem sc_law_add : FnScope ["_law_room", "_law_mark_here", "_law_keeper", "_law_lies"] ["_law_room", "_law_mark_here"] (defScope s_law_add) := ⟨rfl, rfl, rfl, by decide +kernel, rfl, by decide +kernel, by decide +kernel⟩
theorem ok_law_add (Z : Zt K mg) : Cal P w K mg base "_law_add" 2 ["_law_room", "_law_mark_here"] spAdd := by
  obtain ⟨fd, F⟩ := Z.du_law_add
  have c_law_takes := ok_law_takes (P := P) (w := w) (base := base) Z
  have c_law_gives := ok_law_gives (P := P) (w := w) (base := base) Z
  refine ⟨Z.gl_law_add, F.kp, fd, F.ok sc_law_add (fun vs H Q E h => ?_) (fun cdv A outer s H vs Q E hr h => ?_), FunD.bindsN F fun _ _ _ _ _ _ us hl => match us, hl with | [_, _], _ => rfl⟩
  · obtain ⟨a, A, rm, st, B, rfl, _⟩ := h
    rfl
  · obtain ⟨a, A, rm, st, B, rfl, R, hln, hnw, k⟩ := h
    have hu := hu_of hr
    refine ⟨_, PSs.nox (pss_cons (ps_set (i := 2) sc_law_add.nd rfl (Or.inl rfl) (pe_slice sl_str (pv 1) (po_some pe_int) po_none))
      (pss_cons (ps_set (i := 3) sc_law_add.nd rfl (Or.inl rfl) (pe_dget2 hu (pe_dget hu (pv 0) pe_str (fun _ _ => rfl)) (pv 2) pe_int ⟨rfl, rfl, rfl, rfl⟩))
      (pss_cons (ps_if (pt_cmpR op_eq (pe_ix ix_str (pv 1) pe_int (fun _ _ => rfl)) pe_str (nomark _)) (pss_cons (ps_if (PW.pt (pw_and (pt_cmpR op_gt (pv 3) pe_int (nomark _)) (pw_and1 (pt_cmp (pc_dnotin hu (pv 2) (pe_dget hu (pv 0) pe_str (fun _ _ => rfl))))))) (pss_cons (ps_expr (pe_bm PySem.F.plainAttrs_list PySem.F.slot_list_extend PySem.F.type_list_extend mt_extend (pe_dget hu (pv 0) pe_str (fun _ _ => rfl)) (pa_cons (pe_op op_rep (pe_lst (pa_cons (pv 1) pa_nil)) (pv 3)) pa_nil)))
      (pss_cons (ps_dput hu (pv 0) pe_str (pe_op op_add (pe_dget hu (pv 0) pe_str (fun _ _ => rfl)) (pv 3)) rfl)
      (pss_one (ps_dput hu (pe_dget hu (pv 0) pe_str (fun _ _ => rfl)) (pv 2) pe_int rfl)))) pss_nil)
      (pss_one ps_retN)) pss_nil)
      (Evl.pss_cut (ps_if (PW.pt (pw_and (pt_cmpR op_eq (pe_ix ix_str (pv 1) pe_int (fun _ _ => rfl)) pe_str (nomark _)) (pw_and (pt_cmpR op_gt (pv 3) pe_int (nomark _)) (pw_and1 (pt_cmp (pc_dnotin hu (pv 2) (pe_dget hu (pv 0) pe_str (fun _ _ => rfl)))))))) (pss_one (ps_set (i := 1) sc_law_add.nd rfl (Or.inl rfl) pe_str)) pss_nil)
      (Evl.pss_cut (ps_if (pt_cmpR op_eq (pe_ix ix_str (pv 1) pe_int (fun _ _ => rfl)) pe_str (nomark _)) (pss_one (ps_dput hu (pe_dget hu (pv 0) pe_str (fun _ _ => rfl)) (pv 2) (pe_op op_add (pe_dget2 hu (pe_dget hu (pv 0) pe_str (fun _ _ => rfl)) (pv 2) pe_int ⟨rfl, rfl, rfl, rfl⟩) pe_int) rfl)) pss_nil)
      (pss_cons (ps_expr (pe_bm PySem.F.plainAttrs_list PySem.F.slot_list_append PySem.F.type_list_append mt_append (pe_dget hu (pv 0) pe_str (fun _ _ => rfl)) (pa_cons (pv 1) pa_nil)))
      (pss_cons (ps_dput hu (pv 0) pe_str (pe_op op_add (pe_dget hu (pv 0) pe_str (fun _ _ => rfl)) (pe_cal c_law_takes (hr.mono (by decide)) (by rfl) (pa_cons (pv 1) pa_nil))) rfl)
      (pss_one (ps_dput hu (pv 0) pe_str (pe_op op_add (pe_dget hu (pv 0) pe_str (fun _ _ => rfl)) (pe_cal c_law_gives (hr.mono (by decide)) (by rfl) (pa_cons (pv 1) pa_nil))) rfl))))))))), ?_⟩
    have hz := mk_small st
    have hx := mk_fst st
    obtain ⟨ob, hob, hO⟩ := R.ob
    obtain ⟨g1, g2, g3, g4, g5, g6, g7, g8⟩ := hO.get hob
    obtain ⟨lo, hla, hL⟩ := R.li
    obtain ⟨po, hpa, hP⟩ := R.pu
    have hown : ∀ b o, b ∈ A.own a → Same (msk (A.own a) H) (msk (A.own a) (upd H b o)) := fun b o h => by rw [msk_upd h]; exact Same.refl _
    refine ⟨_, rfl, 1, rfl, _, rfl, hz, ?_⟩
    have hlg : ∃ o, DGet H A.la (.str (cutS (mkS st) (some 1) none)) o := by
      obtain ⟨ks, f, rfl, _⟩ := hL
      exact ⟨_, DGet.k (k := .inr (cutS (mkS st) (some 1) none)) hla⟩
    have hlg2 : ∀ j : K34.W, cutS (mkS st) (some 1) none = j.str → DGet H A.la (.str (cutS (mkS st) (some 1) none)) ((rm.lies j).map fun n => V.int (n : Int)) := fun j e => by rw [e]; exact hL.get hla j
    have hpg2 : ∀ j : K34.W, cutS (mkS st) (some 1) none = j.str → DGet H A.pa (.str (cutS (mkS st) (some 1) none)) ((rm.put j).map fun n => V.int (n : Int)) := fun j e => by rw [e]; exact hP.get hpa j
    have hlv : ∀ j : K34.W, (((rm.lies j).map fun n => V.int (n : Int)).getD (.int 0)) = .int (rm.liesN j : Int) := fun j => by
      unfold Rm.liesN
      cases rm.lies j <;> rfl
    by_cases hF : ∃ j, st = .fetch j
    · obtain ⟨j, rfl⟩ := hF
      have hc := cut_fetch j
      refine ⟨_, rfl, a, _, rfl, g7, A.la, rfl, hL.isD hla, _, rfl, _, hlg2 j hc, ?_⟩
      rw [hlv]
      refine ⟨_, rfl, _, 0, _, rfl, rfl, hz, hx, rfl, _, rfl, iteU (fst_f (.fetch j)) ?_⟩
      refine ⟨_, rfl, _, _, rfl, rfl, _, rfl, ?_⟩
      by_cases q1 : 0 < rm.liesN j
      · refine iteU (decide_eq_true (by show (0 : Int) < (rm.liesN j : Int); omega)) ⟨_, rfl, _, rfl, a, _, rfl, g8, A.pa, _, rfl, hpg2 j hc, _, rfl, ?_⟩
        cases q2 : rm.put j with
        | none =>
          refine iteT ?_
          have hnow := R.nw
          refine ⟨_, rfl, a, _, rfl, g5, .inl ⟨rfl, _, SqL.of hnow⟩, _, rfl, (by show 1 ≤ sizeLine; decide), fun l hl => ?_⟩
          have s1 := sm_new (o := .lst [.str (mkS (.fetch j))]) hl
          have hlj := hln j
          refine ⟨_, rfl, l, (rm.liesN j : Int), _, rfl, rfl, upd_same, by omega, by omega, ?_, fun q hq => ?_⟩
          · rw [Int.toNat_natCast, List.length_singleton]; exact szl (by omega)
          rw [Int.toNat_natCast]
          have s2 := s1.trans (sm_new (o := .lst (List.replicate (rm.liesN j) [V.str (mkS (.fetch j))]).flatten) hq)
          have erep : (List.replicate (rm.liesN j) [V.str (mkS (.fetch j))]).flatten = (List.replicate (rm.liesN j) (Stch.fetch j)).map strS := by
            rw [List.map_replicate]
            generalize rm.liesN j = n
            induction n with
            | zero => rfl
            | succ n ih => rw [List.replicate_succ, List.flatten_cons, ih, List.replicate_succ]; rfl
          rw [erep] at s2 ⊢
          have R1 := (R.grow s2).sNow (l := rm.now ++ List.replicate (rm.liesN j) (.fetch j))
          rw [List.map_append] at R1
          refine ⟨A.na, q, _, _, rfl, rfl, s2 _ _ hnow, upd_same, ?_, ?_⟩
          · rw [List.length_map, List.length_map, List.length_replicate]; exact szl (by omega)
          have sX : Same (msk (A.own a) H) (msk (A.own a) (upd (upd (upd H l (.lst [.str (mkS (.fetch j))])) q (.lst ((List.replicate (rm.liesN j) (Stch.fetch j)).map strS))) A.na (.lst (rm.now.map strS ++ (List.replicate (rm.liesN j) (Stch.fetch j)).map strS)))) := by
            rw [msk_upd (by simp [RmA.own])]; exact msk_mono s2
          generalize upd (upd (upd H l (.lst [.str (mkS (.fetch j))])) q (.lst ((List.replicate (rm.liesN j) (Stch.fetch j)).map strS))) A.na (.lst (rm.now.map strS ++ (List.replicate (rm.liesN j) (Stch.fetch j)).map strS)) = H2 at R1 sX ⊢
          obtain ⟨ob2, hob2, hO2⟩ := R1.ob
          obtain ⟨_, _, _, c4, _⟩ := hO2.get hob2
          obtain ⟨ob3, d3, ks3, fo3, eo3, eo3', m3, ln3', F3⟩ := hO2.put hob2 (s := "given") (by decide +kernel) (.int ((rm.given : Int) + (rm.liesN j : Int)))
          refine ⟨_, rfl, a, _, rfl, c4, _, rfl, _, _, rfl, rfl, _, rfl, a, _, rfl, d3, ?_⟩
          have R2 := R1.sOb (o := ob3) (h := rm.hand) (oth := rm.other) (t := rm.taken) (g := rm.given + rm.liesN j) ⟨ks3, _, eo3', m3, ln3', F3.sGiven (n := rm.given + rm.liesN j)⟩
          have sY : Same (msk (A.own a) H) (msk (A.own a) (upd H2 a ob3)) := by rw [msk_upd (by simp [RmA.own])]; exact sX
          generalize upd H2 a ob3 = H3 at R2 sY ⊢
          obtain ⟨ob4, hob4, hO4⟩ := R2.ob
          obtain ⟨_, _, _, _, _, _, _, c8⟩ := hO4.get hob4
          obtain ⟨po3, hpa3, hP3⟩ := R2.pu
          obtain ⟨o', dp, hC'⟩ := hP3.put hpa3 j 0
          refine ⟨_, rfl, a, _, rfl, c8, _, rfl, A.pa, _, rfl, by rw [hc]; exact dp, ?_⟩
          have R3 := R2.sPut hC'
          refine k _ (by rw [msk_upd (by simp [RmA.own])]; exact sY) ?_
          have ea : addM rm (.fetch j) = { rm with now := rm.now ++ List.replicate (rm.liesN j) (.fetch j), given := rm.given + rm.liesN j, put := setP rm.put j 0 } := if_pos ⟨q1, q2⟩
          rw [ea]
          exact R3
        | some n =>
          refine iteF ?_
          have ea : addM rm (.fetch j) = rm := if_neg fun z => by rw [q2] at z; cases z.2
          rw [ea] at k
          exact k _ (Same.refl _) R
      · refine iteE (decide_eq_false (by show ¬ (0 : Int) < (rm.liesN j : Int); omega)) (iteF ?_)
        have ea : addM rm (.fetch j) = rm := if_neg fun z => q1 z.1
        rw [ea] at k
        exact k _ (Same.refl _) R
    have hnf : ∀ j, st ≠ .fetch j := fun j e => hF ⟨j, e⟩
    have hlg3 : ∃ o, DGet H A.la (.str (cutS (mkS st) (some 1) none)) o ∧ ∀ j : K34.W, st = .keep j → o.getD (.int 0) = .int (rm.liesN j : Int) := by
      by_cases hK : ∃ j, st = .keep j
      · obtain ⟨j, rfl⟩ := hK
        exact ⟨_, hlg2 j (cut_keep j), fun j2 e => by cases e; exact hlv j⟩
      · obtain ⟨o, ho⟩ := hlg
        exact ⟨o, ho, fun j e => absurd ⟨j, e⟩ hK⟩
    obtain ⟨o, ho, hov⟩ := hlg3
    refine ⟨_, rfl, a, _, rfl, g7, A.la, rfl, hL.isD hla, _, rfl, o, ho, ?_⟩
    generalize o.getD (.int 0) = v3 at hov ⊢
    refine ⟨_, rfl, _, 0, _, rfl, rfl, hz, hx, rfl, _, rfl, iteE ((fst_f st).trans (by cases st <;> first | rfl | exact absurd rfl (hnf _))) ?_⟩
    refine ⟨fun σ' H' => ∃ st' : Stch, σ' = [some (.ref a), some (.str (mkS st')), some (.str (cutS (mkS st) (some 1) none)), some v3] ∧ H' = H ∧ (isK st' = false → addM rm st = app rm st') ∧
      (∀ j, st' = .keep j → st = .keep j ∧ addM rm st = app { rm with put := setP rm.put j ((rm.put j).getD 0 + 1) } (.keep j)), ?_, ?_⟩
    · refine ⟨_, rfl, _, 0, _, rfl, rfl, hz, hx, rfl, _, rfl, ?_⟩
      cases hk : isK st with
      | false =>
        refine iteE ((isH_eq st).trans hk) (iteF ⟨st, rfl, rfl, fun _ => ?_, fun j e => by rw [e] at hk; cases hk⟩)
        cases st <;> first | rfl | exact absurd rfl (hnf _) | cases hk
      | true =>
        obtain ⟨j, rfl⟩ : ∃ j, st = .keep j := by cases st <;> first | exact ⟨_, rfl⟩ | cases hk
        rw [hov j rfl]
        refine iteU ((isH_eq _).trans hk) ⟨_, rfl, _, _, rfl, rfl, _, rfl, ?_⟩
        by_cases q1 : 0 < rm.liesN j
        · refine iteU (decide_eq_true (by show (0 : Int) < (rm.liesN j : Int); omega)) ⟨_, rfl, _, rfl, a, _, rfl, g8, A.pa, _, rfl, hpg2 j (cut_keep j), _, rfl, ?_⟩
          cases q2 : rm.put j with
          | none =>
            refine iteT ⟨.plain false, ?_, rfl, fun _ => if_pos ⟨q1, q2⟩, fun j e => by cases e⟩
            rw [show mkS (.plain false) = "p" by decide +kernel]
            rfl
          | some n =>
            refine iteF ⟨.keep j, rfl, rfl, fun e => (by cases e), fun j2 e => ?_⟩
            cases e
            exact ⟨rfl, if_neg fun z => by rw [q2] at z; cases z.2⟩
        · refine iteE (decide_eq_false (by show ¬ (0 : Int) < (rm.liesN j : Int); omega)) (iteF ⟨.keep j, rfl, rfl, fun e => (by cases e), fun j2 e => ?_⟩)
          cases e
          exact ⟨rfl, if_neg fun z => q1 z.1⟩
    · rintro σ' H' ⟨st', rfl, rfl, k1, k2⟩
      have hz' := mk_small st'
      have hx' := mk_fst st'
      refine ⟨fun σ' H'' => ∃ rm3 : Rm, σ' = [some (.ref a), some (.str (mkS st')), some (.str (cutS (mkS st) (some 1) none)), some v3] ∧ Same (msk (A.own a) H') (msk (A.own a) H'') ∧ RmR B H'' a A rm3 ∧ rm3.now.length ≤ 10000 ∧ addM rm st = app rm3 st', ?_, ?_⟩
      · refine ⟨_, rfl, _, 0, _, rfl, rfl, hz', hx', rfl, _, rfl, ?_⟩
        cases hk : isK st' with
        | false => exact iteE ((isH_eq st').trans hk) ⟨rm, rfl, Same.refl _, R, hnw, k1 hk⟩
        | true =>
          obtain ⟨j, rfl⟩ : ∃ j, st' = .keep j := by cases st' <;> first | exact ⟨_, rfl⟩ | cases hk
          obtain ⟨rfl, ea⟩ := k2 j rfl
          have hc := cut_keep j
          obtain ⟨o', dp, hC'⟩ := hP.put hpa j ((rm.put j).getD 0 + 1)
          have hpv : (((rm.put j).map fun n => V.int (n : Int)).getD (.int 0)) = .int (((rm.put j).getD 0 : Nat) : Int) := by cases rm.put j <;> rfl
          refine iteU ((isH_eq _).trans hk) ⟨_, rfl, a, _, rfl, g8, A.pa, rfl, hP.isD hpa, _, rfl, _, hpg2 j hc, ?_⟩
          rw [hpv]
          exact ⟨_, _, rfl, rfl, _, rfl, a, _, rfl, g8, _, rfl, A.pa, _, rfl, by rw [hc]; exact dp, _, rfl, hown _ _ (by simp [RmA.own]), R.sPut hC', hnw, ea⟩
      · rintro σ' H1 ⟨rm3, rfl, s1, R1, hn1, ea⟩
        rw [ea] at k
        obtain ⟨ob1, hob1, hO1⟩ := R1.ob
        obtain ⟨_, _, _, _, c5, _⟩ := hO1.get hob1
        have hnow := R1.nw
        refine ⟨_, rfl, a, _, rfl, c5, .inl ⟨rfl, _, SqL.of hnow⟩, _, rfl, A.na, _, _, rfl, rfl, hnow, by rw [List.length_map]; exact szt (by omega), ?_⟩
        have R2 := R1.sNow (l := rm3.now ++ [st'])
        rw [List.map_append] at R2
        have R2 : RmR B (upd H1 A.na (.lst (rm3.now.map strS ++ [V.str (mkS st')]))) a A { rm3 with now := rm3.now ++ [st'] } := R2
        have s2 : Same (msk (A.own a) H') (msk (A.own a) (upd H1 A.na (.lst (rm3.now.map strS ++ [V.str (mkS st')])))) := by rw [msk_upd (by simp [RmA.own])]; exact s1
        generalize upd H1 A.na (.lst (rm3.now.map strS ++ [V.str (mkS st')])) = H2 at R2 s2 ⊢
        obtain ⟨ob2, hob2, hO2⟩ := R2.ob
        obtain ⟨_, _, c3, _⟩ := hO2.get hob2
        obtain ⟨ob3, d3, ks3, fo3, eo3, eo3', m3, ln3', F3⟩ := hO2.put hob2 (s := "taken") (by decide +kernel) (.int ((rm3.taken : Int) + (st'.takes : Int)))
        refine ⟨_, rfl, a, _, rfl, c3, _, rfl, st', rfl, _, _, rfl, rfl, _, rfl, a, _, rfl, d3, ?_⟩
        have R3 := R2.sOb (o := ob3) (h := rm3.hand) (oth := rm3.other) (t := rm3.taken + st'.takes) (g := rm3.given) ⟨ks3, _, eo3', m3, ln3', F3.sTaken (n := rm3.taken + st'.takes)⟩
        have s3 : Same (msk (A.own a) H') (msk (A.own a) (upd H2 a ob3)) := by rw [msk_upd (by simp [RmA.own])]; exact s2
        generalize upd H2 a ob3 = H3 at R3 s3 ⊢
        obtain ⟨ob4, hob4, hO4⟩ := R3.ob
        obtain ⟨_, _, _, c4, _⟩ := hO4.get hob4
        obtain ⟨ob5, d5, ks5, fo5, eo5, eo5', m5, ln5', F5⟩ := hO4.put hob4 (s := "given") (by decide +kernel) (.int ((rm3.given : Int) + (st'.gives : Int)))
        refine ⟨_, rfl, a, _, rfl, c4, _, rfl, st', rfl, _, _, rfl, rfl, _, rfl, a, _, rfl, d5, ?_⟩
        have R5 := R3.sOb (o := ob5) (h := rm3.hand) (oth := rm3.other) (t := rm3.taken + st'.takes) (g := rm3.given + st'.gives) ⟨ks5, _, eo5', m5, ln5', F5.sGiven (n := rm3.given + st'.gives)⟩
        exact k _ (by rw [msk_upd (by simp [RmA.own])]; exact s3) R5
end K34
set_option autoImplicit true
set_option Elab.async false
set_option linter.all false
set_option maxRecDepth 100000
set_option maxHeartbeats 4000000
namespace K34
open PySem PySem.Spec PyProof.Rows L2
variable {P : Program} {w : World} {K : PySem.W.Frag} {mg : Str → Option Value} {base : Heap}

/-! ### _law_rows -/
def pdW (row : List Stch) : PyData := .list (row.map fun st => .str (mkS st))
theorem dp_strs {H : Hp} : ∀ row : List Stch, DpAll K H (row.map strS) (row.map fun st => .str (mkS st))
  | [] => .nil
  | st :: row => .cons (.str _) (dp_strs row)
theorem dp_now {H : Hp} {a : Addr} {row : List Stch} (h : H a = some (.lst (row.map strS))) : Dp K H (.ref a) (pdW row) := .lst (SqL.of h) (dp_strs row)
theorem mk_ok (st : Stch) : PyData.strOk (mkS st) = true := by
  cases st with
  | plain f => cases f <;> decide +kernel
  | lean m r f => revert m; cases r <;> cases f <;> decide +kernel
  | grow m f => revert m; cases f <;> decide +kernel
  | cross a b v f => revert a b; cases v <;> cases f <;> decide +kernel
  | keep k => cases k <;> decide +kernel
  | fetch k => cases k <;> decide +kernel
  | _ => decide +kernel
theorem shaped_strs : ∀ row : List Stch, PyData.canLayAll0 (row.map fun st => .str (mkS st)) = true ∧ PyData.depthAll (row.map fun st => PyData.str (mkS st)) ≤ 0
  | [] => ⟨rfl, Nat.le_refl _⟩
  | st :: row => by
    obtain ⟨h1, h2⟩ := shaped_strs row
    constructor
    · simp only [List.map_cons, PyData.canLayAll0, h1, Bool.and_true, PyData.canLay0, mk_ok]
    · simp only [List.map_cons, PyData.depthAll, PyData.depth]
      omega
theorem shaped_now (row : List Stch) : SeqAt.shaped (pdW row) = true := by
  obtain ⟨h1, h2⟩ := shaped_strs row
  unfold SeqAt.shaped pdW
  rw [Bool.and_eq_true]
  refine ⟨by simp only [PyData.canLay0]; exact h1, decide_eq_true ?_⟩
  simp only [PyData.depth]
  omega
theorem eqv_now (row : List Stch) : PyData.eqv (pdW row) (pdW []) = decide (row = []) := by
  unfold pdW
  cases row with
  | nil => simp [PyData.eqv, PyData.eqvAll]
  | cons st row => simp [PyData.eqv, PyData.eqvAll]
theorem isF_len (row : List Stch) (k : W) : sumS (Stch.isF k) row ≤ row.length := by
  induction row with
  | nil => exact Nat.le_refl _
  | cons s row ih =>
    rw [sumS_cons, List.length_cons]
    have : s.isF k ≤ 1 := by
      cases s with
      | fetch j => by_cases q : j = k <;> simp [Stch.isF, q]
      | _ => simp [Stch.isF]
    omega
theorem Sim.lies_le {n0 i : Nat} {rm : Rm} {nd : Nd} (S : Sim n0 i rm nd) (hi : i ≤ 200) (k : W) : rm.liesN k ≤ 10000 := by
  have a := S.psi
  have b := S.nowb
  cases e : rm.put k with
  | some n =>
    have := (S.putS k n e).1
    have := isF_len rm.now k
    omega
  | none =>
    unfold sumW at a
    simp only at a
    have : (rm.put k).getD (rm.liesN k) = rm.liesN k := by rw [e]; rfl
    cases k <;> omega
theorem p13 : (0 : Int) < 13 := by decide
def spRows (K : PySem.W.Frag) : Sp := fun vs H Q _ => ∃ (sa : Addr) (cs : List Int), vs = [.ref sa, .bl true] ∧ SqL K H sa (cs.map V.int) ∧
  ∀ H' ra rvs (rm : Rm) nd i, Same H H' → H ra = none → H' ra = some (.lst rvs) → All2 (RowQ H H') rvs rm.rows → Sim (cs.getD 0 0 % 9).toNat i rm nd → i ≤ 100 → rm.now = [] → Q (.ref ra) H'
theorem sc_law_rows : FnScope ["_law_script", "_law_early", "_law_room", "_law_cell", "_law_rest", "_law_mark_here"] ["_law_script", "_law_early"] (defScope s_law_rows) := ⟨rfl, rfl, rfl, by decide +kernel, rfl, by decide +kernel, by decide +kernel⟩
theorem ok_law_rows (Z : Zt K mg) : Cal P w K mg base "_law_rows" 3 ["_law_script", "_law_early"] (spRows K) := by
  obtain ⟨fd, F⟩ := Z.du_law_rows
  have c_law_takes := ok_law_takes (P := P) (w := w) (base := base) Z
  have c_law_mark := ok_law_mark (P := P) (w := w) (base := base) Z
  have c_law_add := ok_law_add (P := P) (w := w) (base := base) Z
  have c_law_row_end := ok_law_row_end (P := P) (w := w) (base := base) Z
  have c_law_cell_at := ok_law_cell_at (P := P) (w := w) (base := base) Z
  refine ⟨Z.gl_law_rows, F.kp, fd, F.ok sc_law_rows (fun vs H Q E h => ?_) (fun cdv A outer s H vs Q E hr h => ?_), FunD.bindsN F fun _ _ _ _ _ _ us hl => match us, hl with | [_, _], _ => rfl⟩
  · obtain ⟨sa, cs, rfl, _⟩ := h
    rfl
  · obtain ⟨sa, cs, rfl, hsa, k⟩ := h
    have hu := hu_of hr
    refine ⟨_, PSs.nox (pss_cons (ps_set (i := 2) sc_law_rows.nd rfl (Or.inl rfl) (pe_disp (pps_cons pe_str (pe_op op_mod (pe_cal c_law_cell_at (hr.mono (by decide)) (by rfl) (pa_cons (pv 0) (pa_cons pe_int pa_nil))) pe_int) (pps_cons pe_str pe_int (pps_cons pe_str pe_int (pps_cons pe_str pe_int pps_nil)))) (by rfl) (by rfl) (fun z => by cases z) (by decide)))
      (pss_cons (ps_expr (pe_bm PySem.F.plainAttrs_dict PySem.F.slot_dict_update PySem.F.type_dict_update mt_dupd (pv 2) (pa_cons (pe_disp (pps_cons pe_str (pe_lst pa_nil) (pps_cons pe_str (pe_lst pa_nil) (pps_cons pe_str pe_dnewK (pps_cons pe_str pe_dnewK pps_nil)))) (by rfl) (by rfl) (fun z => by cases z) (by decide)) pa_nil)))
      (pss_cons (ps_for PassesOwn.never rfl (pi_list (pe_slice sl_list (pv 0) (po_some pe_int) (po_some pe_int))) (pg_name (i := 3) sc_law_rows.nd rfl (Or.inl rfl)) (pss_cons (ps_set (i := 4) sc_law_rows.nd rfl (Or.inl rfl) (pe_op op_sub (pe_dget hu (pv 2) pe_str (fun _ _ => rfl)) (pe_dget hu (pv 2) pe_str (fun _ _ => rfl))))
      (Evl.pss_cut (ps_if (PW.pt (pw_and (pt_cmpR (op_neD hr.units) (pe_dget hu (pv 2) pe_str (fun _ _ => rfl)) (pe_lst pa_nil) (nomark _)) (pw_and1 (PW.pt (pw_or (pt_cmpR op_eq (pv 4) pe_int (nomark _)) (pw_or1 (PW.pt (pw_and (pt_val (pv 1)) (pw_and1 (pt_cmpR op_eq (pe_op op_mod (pv 3) pe_int) pe_int (nomark _))))))))))) (pss_cons (ps_expr (pe_cal c_law_row_end (hr.mono (by decide)) (by rfl) (pa_cons (pv 2) pa_nil)))
      (pss_one (ps_set (i := 4) sc_law_rows.nd rfl (Or.inl rfl) (pe_dget hu (pv 2) pe_str (fun _ _ => rfl))))) pss_nil)
      (pss_cons (ps_set (i := 5) sc_law_rows.nd rfl (Or.inl rfl) (pe_cal c_law_mark (hr.mono (by decide)) (by rfl) (pa_cons (pv 3) pa_nil)))
      (Evl.pss_cut (ps_if (pt_cmpR op_gt (pe_cal c_law_takes (hr.mono (by decide)) (by rfl) (pa_cons (pv 5) pa_nil)) (pv 4) (nomark _)) (pss_one (ps_set (i := 5) sc_law_rows.nd rfl (Or.inl rfl) (pe_ix ix_list (pe_lst (pa_cons pe_str (pa_cons (pe_ix ix_str pe_str (pe_op op_mod (pv 3) pe_int) (fun _ _ => rfl)) pa_nil))) (pe_callB (call_min2 rfl) (by rfl) Z.fr_min (by decide +kernel) (pa_cons (pv 4) (pa_cons pe_int pa_nil))) (fun _ _ => rfl)))) pss_nil)
      (pss_one (ps_expr (pe_cal c_law_add (hr.mono (by decide)) (by rfl) (pa_cons (pv 2) (pa_cons (pv 5) pa_nil))))))))))
      (pss_cons (ps_if (pt_not (pt_val (pv 1))) (pss_one (ps_while PassesOwn.never (pt_cmpR op_lt (pe_dget hu (pv 2) pe_str (fun _ _ => rfl)) (pe_dget hu (pv 2) pe_str (fun _ _ => rfl)) (nomark _)) (pss_one (ps_expr (pe_cal c_law_add (hr.mono (by decide)) (by rfl) (pa_cons (pv 2) (pa_cons pe_str pa_nil))))))) pss_nil)
      (Evl.pss_cut (ps_if (pt_cmpR (op_neD hr.units) (pe_dget hu (pv 2) pe_str (fun _ _ => rfl)) (pe_lst pa_nil) (nomark _)) (pss_one (ps_expr (pe_cal c_law_row_end (hr.mono (by decide)) (by rfl) (pa_cons (pv 2) pa_nil)))) pss_nil)
      (pss_one (ps_ret (pe_dget hu (pv 2) pe_str (fun _ _ => rfl))))))))), ?_⟩
    have e9 : cs.getD 0 0 % 9 = ((cs.getD 0 0 % 9).toNat : Int) := by omega
    have h08 : (cs.getD 0 0 % 9).toNat ≤ 8 := by omega
    generalize (cs.getD 0 0 % 9).toNat = n0 at e9 h08 k
    intro a ha
    refine ⟨_, rfl, sa, cs, rfl, sqM (sm_new ha) hsa, _, 9, rfl, rfl, p9, ?_⟩
    refine ⟨upd_same, [(.inr "hand", .int (cs.getD 0 0 % 9)), (.inr "other", .int 0), (.inr "taken", .int 0), (.inr "given", .int 0)], rfl, (by show 4 ≤ 15; decide), ?_⟩
    rw [e9, upd_upd]
    have em1 : mergeK [] [((.inr "hand" : Key), V.int (n0 : Int)), (.inr "other", V.int 0), (.inr "taken", V.int 0), (.inr "given", V.int 0)] =
        dS (insS (insS (insS (insS [] "hand") "other") "taken") "given") (updS (updS (updS (updS (fun _ => .non) "hand" (.int (n0 : Int))) "other" (.int ((0 : Nat) : Int))) "taken" (.int ((0 : Nat) : Int))) "given" (.int ((0 : Nat) : Int))) := by
      show putK (putK (putK (putK (dS [] (fun _ => V.non)) (.inr "hand") _) (.inr "other") _) (.inr "taken") _) (.inr "given") _ = _
      rw [dS_put, dS_put, dS_put, dS_put]
      rfl
    rw [em1]
    refine ⟨_, rfl, .inr (.inr (.inl ⟨rfl, .inl ⟨_, upd_same⟩⟩)), fun D hD => ⟨Nat.zero_le _, fun na hna => ⟨Nat.zero_le _, fun ra hra la hla pa hpa => ?_⟩⟩⟩
    generalize hks0 : insS (insS (insS (insS [] "hand") "other") "taken") "given" = ks0
    generalize hf0 : updS (updS (updS (updS (fun _ => V.non) "hand" (.int (n0 : Int))) "other" (.int ((0 : Nat) : Int))) "taken" (.int ((0 : Nat) : Int))) "given" (.int ((0 : Nat) : Int)) = f0 at hD hna hra hla hpa ⊢
    rw [hks0] at hD hna hra hla hpa
    have aD : a ≠ D := fun e => by rw [← e, upd_same] at hD; cases hD
    have s1 := sm_new (o := .dK (dS ks0 f0)) ha
    have sD := sm_new (o := .dK []) hD
    have sn := sm_new (o := .lst []) hna
    have sr := sm_new (o := .lst []) hra
    have sl := sm_new (o := .dK []) hla
    have sp := sm_new (o := .dK []) hpa
    have s6 := (((sD.trans sn).trans sr).trans sl).trans sp
    have eD := sp _ _ (sl _ _ (sr _ _ (sn _ _ (upd_same (H := upd H a (.dK (dS ks0 f0))) (a := D) (o := .dK [])))))
    have en := sp _ _ (sl _ _ (sr _ _ (upd_same (H := upd (upd H a (.dK (dS ks0 f0))) D (.dK [])) (a := na) (o := .lst []))))
    have er := sp _ _ (sl _ _ (upd_same (H := upd (upd (upd H a (.dK (dS ks0 f0))) D (.dK [])) na (.lst [])) (a := ra) (o := .lst [])))
    have el := sp _ _ (upd_same (H := upd (upd (upd (upd H a (.dK (dS ks0 f0))) D (.dK [])) na (.lst [])) ra (.lst [])) (a := la) (o := .dK []))
    have ep := upd_same (H := upd (upd (upd (upd (upd H a (.dK (dS ks0 f0))) D (.dK [])) na (.lst [])) ra (.lst [])) la (.dK [])) (a := pa) (o := .dK [])
    have ea := s6 _ _ (upd_same (H := H) (a := a) (o := .dK (dS ks0 f0)))
    have aA := sD.trans sn
    have nan : a ≠ na := ne_of_none (sD _ _ upd_same) hna
    have nar : a ≠ ra := ne_of_none ((sD.trans sn) _ _ upd_same) hra
    have nal : a ≠ la := ne_of_none (((sD.trans sn).trans sr) _ _ upd_same) hla
    have nap : a ≠ pa := ne_of_none ((((sD.trans sn).trans sr).trans sl) _ _ upd_same) hpa
    have nDn : D ≠ na := ne_of_none upd_same hna
    have nDr : D ≠ ra := ne_of_none (sn _ _ upd_same) hra
    have nDl : D ≠ la := ne_of_none ((sn.trans sr) _ _ upd_same) hla
    have nDp : D ≠ pa := ne_of_none (((sn.trans sr).trans sl) _ _ upd_same) hpa
    have nnr : na ≠ ra := ne_of_none upd_same hra
    have nnl : na ≠ la := ne_of_none (sr _ _ upd_same) hla
    have nnp : na ≠ pa := ne_of_none ((sr.trans sl) _ _ upd_same) hpa
    have nrl : ra ≠ la := ne_of_none upd_same hla
    have nrp : ra ≠ pa := ne_of_none (sl _ _ upd_same) hpa
    have nlp : la ≠ pa := ne_of_none upd_same hpa
    have fD := s1.free hD
    have fn := (s1.trans sD).free hna
    have fr := (s1.trans (sD.trans sn)).free hra
    have fl := (s1.trans ((sD.trans sn).trans sr)).free hla
    have fp := (s1.trans (((sD.trans sn).trans sr).trans sl)).free hpa
    have sH := s1.trans s6
    generalize upd (upd (upd (upd (upd (upd H a (.dK (dS ks0 f0))) D (.dK [])) na (.lst [])) ra (.lst [])) la (.dK [])) pa (.dK []) = H6 at eD en er el ep ea sH s6 ⊢
    refine ⟨eD, [(.inr "now", .ref na), (.inr "rows", .ref ra), (.inr "lies", .ref la), (.inr "put", .ref pa)], rfl, (by show 4 ≤ 15; decide), ?_⟩
    have em2 : mergeK [] [((.inr "now" : Key), V.ref na), (.inr "rows", .ref ra), (.inr "lies", .ref la), (.inr "put", .ref pa)] = [(.inr "now", .ref na), (.inr "rows", .ref ra), (.inr "lies", .ref la), (.inr "put", .ref pa)] := merge_app _ _ (by
      show List.Nodup [(.inr "now" : Key), .inr "rows", .inr "lies", .inr "put"]
      decide +kernel)
    rw [em2]
    have ek0 : ks0.length ≤ 4 := by
      rw [← hks0]
      have h1 := insS_len (ks := []) (s := "hand")
      have h2 := insS_len (ks := insS [] "hand") (s := "other")
      have h3 := insS_len (ks := insS (insS [] "hand") "other") (s := "taken")
      have h4 := insS_len (ks := insS (insS (insS [] "hand") "other") "taken") (s := "given")
      simp only [List.length_nil] at h1
      omega
    refine ⟨a, D, _, _, rfl, rfl, by rw [upd_ne aD]; exact ea, upd_same, aD, ?_, ?_⟩
    · rw [dS_len]; exact szl (by show ks0.length + 4 ≤ _; omega)
    have em3 : mergeK (dS ks0 f0) [((.inr "now" : Key), V.ref na), (.inr "rows", .ref ra), (.inr "lies", .ref la), (.inr "put", .ref pa)] =
        dS (insS (insS (insS (insS ks0 "now") "rows") "lies") "put") (updS (updS (updS (updS f0 "now" (.ref na)) "rows" (.ref ra)) "lies" (.ref la)) "put" (.ref pa)) := by
      show putK (putK (putK (putK (dS ks0 f0) (.inr "now") _) (.inr "rows") _) (.inr "lies") _) (.inr "put") _ = _
      rw [dS_put, dS_put, dS_put, dS_put]
    rw [em3]
    have hO : RmO (.dK (dS (insS (insS (insS (insS ks0 "now") "rows") "lies") "put") (updS (updS (updS (updS f0 "now" (.ref na)) "rows" (.ref ra)) "lies" (.ref la)) "put" (.ref pa)))) n0 0 0 0 na ra la pa := by
      refine ⟨_, _, rfl, fun s hs => ?_, ?_, ?_⟩
      · have hs : s ∈ (["hand", "other", "taken", "given", "now", "rows", "lies", "put"] : List Str) := hs
        rw [mem_insS, mem_insS, mem_insS, mem_insS, ← hks0, mem_insS, mem_insS, mem_insS, mem_insS]
        simp only [List.mem_cons, List.not_mem_nil, or_false] at hs
        rcases hs with h | h | h | h | h | h | h | h <;> rw [h] <;> simp
      · have h1 := insS_len (ks := ks0) (s := "now")
        have h2 := insS_len (ks := insS ks0 "now") (s := "rows")
        have h3 := insS_len (ks := insS (insS ks0 "now") "rows") (s := "lies")
        have h4 := insS_len (ks := insS (insS (insS ks0 "now") "rows") "lies") (s := "put")
        omega
      · rw [← hf0]
        refine ⟨?_, ?_, ?_, ?_, ?_, ?_, ?_, ?_⟩ <;> (repeat (first | exact if_pos rfl | refine (if_neg (by decide +kernel)).trans ?_))
    have R0 : RmR H (upd (upd H6 D (.dK [(.inr "now", V.ref na), (.inr "rows", .ref ra), (.inr "lies", .ref la), (.inr "put", .ref pa)])) a (.dK (dS (insS (insS (insS (insS ks0 "now") "rows") "lies") "put") (updS (updS (updS (updS f0 "now" (.ref na)) "rows" (.ref ra)) "lies" (.ref la)) "put" (.ref pa))))) a ⟨na, ra, la, pa⟩ ⟨n0, 0, 0, 0, [], [], fun _ => none, fun _ => none⟩ := by
      refine ⟨by show [a, na, ra, la, pa].Nodup; simp [nan, nar, nal, nap, nnr, nnl, nnp, nrl, nrp, nlp], ⟨_, upd_same, hO⟩, ?_, ⟨[], ?_, .nil⟩, ⟨.dK [], ?_, [], fun _ => .non, rfl, ⟨List.nodup_nil, by simp⟩, fun j => ⟨fun h => absurd h (by simp), fun _ => rfl⟩⟩, ⟨.dK [], ?_, [], fun _ => .non, rfl, ⟨List.nodup_nil, by simp⟩, fun j => ⟨fun h => absurd h (by simp), fun _ => rfl⟩⟩, ?_, ?_⟩
      · show (upd _ _ _) na = _; rw [upd_ne nan.symm, upd_ne nDn.symm]; exact en
      · show (upd _ _ _) ra = _; rw [upd_ne nar.symm, upd_ne nDr.symm]; exact er
      · show (upd _ _ _) la = _; rw [upd_ne nal.symm, upd_ne nDl.symm]; exact el
      · show (upd _ _ _) pa = _; rw [upd_ne nap.symm, upd_ne nDp.symm]; exact ep
      · intro b hb
        unfold RmA.own at hb
        simp only [List.mem_cons, List.not_mem_nil, or_false] at hb
        rcases hb with rfl | rfl | rfl | rfl | rfl <;> assumption
      · intro b u e
        rw [upd_ne (ne_of_none e ha), upd_ne (ne_of_none e fD)]
        exact sH _ _ e
    have S0 := Sim.start h08
    have sK : Same H (msk (RmA.own ⟨na, ra, la, pa⟩ a) (upd (upd H6 D (.dK [(.inr "now", V.ref na), (.inr "rows", .ref ra), (.inr "lies", .ref la), (.inr "put", .ref pa)])) a (.dK (dS (insS (insS (insS (insS ks0 "now") "rows") "lies") "put") (updS (updS (updS (updS f0 "now" (.ref na)) "rows" (.ref ra)) "lies" (.ref la)) "put" (.ref pa)))))) := fun b u e => by
      have c1 := ne_of_none e ha
      have c2 := ne_of_none e fD
      rw [msk_out (by simp [RmA.own, c1, ne_of_none e fn, ne_of_none e fr, ne_of_none e fl, ne_of_none e fp]), upd_ne c1, upd_ne c2]
      exact sH _ _ e
    generalize upd (upd H6 D (.dK [(.inr "now", V.ref na), (.inr "rows", .ref ra), (.inr "lies", .ref la), (.inr "put", .ref pa)])) a (.dK (dS (insS (insS (insS (insS ks0 "now") "rows") "lies") "put") (updS (updS (updS (updS f0 "now" (.ref na)) "rows" (.ref ra)) "lies" (.ref la)) "put" (.ref pa)))) = H7 at R0 sK ⊢
    clear em1 em2 em3 hO
    have sH7 := sK.trans (msk_same (M := RmA.own ⟨na, ra, la, pa⟩ a) (H := H7))
    -- the cells
    refine ⟨_, rfl, 2, rfl, 62, rfl, sa, _, rfl, sqM sH7 hsa, fun ca hca => ?_⟩
    have ecut : cutV (cs.map V.int) (some 2) (some 62) = ((cs.drop (HT.sIx (cs.map V.int).length 0 (some 2))).take (HT.sIx (cs.map V.int).length (cs.map V.int).length (some 62) - HT.sIx (cs.map V.int).length 0 (some 2))).map V.int := by
      unfold cutV
      rw [List.map_take, List.map_drop]
    have e62 : HT.sIx (cs.map V.int).length (cs.map V.int).length (some (62 : Int)) = min 62 (cs.map V.int).length := HT.sIx_nat _ _ 62
    have e02 : HT.sIx (cs.map V.int).length 0 (some (2 : Int)) = min 2 (cs.map V.int).length := HT.sIx_nat _ _ 2
    rw [ecut]
    have hcl : ((cs.drop (HT.sIx (cs.map V.int).length 0 (some 2))).take (HT.sIx (cs.map V.int).length (cs.map V.int).length (some 62) - HT.sIx (cs.map V.int).length 0 (some 2))).length ≤ 60 := by
      rw [e62, e02, List.length_take]
      omega
    generalize (cs.drop (HT.sIx (cs.map V.int).length 0 (some 2))).take (HT.sIx (cs.map V.int).length (cs.map V.int).length (some 62) - HT.sIx (cs.map V.int).length 0 (some 2)) = cells at hcl hca ⊢
    have s8 := sm_new (o := .lst (cells.map V.int)) hca
    have R8 := R0.grow s8
    have hcaO : ca ∉ RmA.own ⟨na, ra, la, pa⟩ a := fun e => by
      obtain ⟨o1, x1, _⟩ := R0.ob
      obtain ⟨v2, x2, _⟩ := R0.rs
      obtain ⟨o3, x3, _⟩ := R0.li
      obtain ⟨o4, x4, _⟩ := R0.pu
      have x5 := R0.nw
      unfold RmA.own at e
      simp only [List.mem_cons, List.not_mem_nil, or_false] at e
      rcases e with e | e | e | e | e
      · rw [e, x1] at hca; cases hca
      · rw [e, x5] at hca; cases hca
      · rw [e, x2] at hca; cases hca
      · rw [e, x3] at hca; cases hca
      · rw [e, x4] at hca; cases hca
    have cG : (msk (RmA.own ⟨na, ra, la, pa⟩ a) (upd H7 ca (.lst (cells.map V.int)))) ca = some (.lst (cells.map V.int)) := by rw [msk_out hcaO, upd_same]
    have sG := sK.trans (msk_mono (M := RmA.own ⟨na, ra, la, pa⟩ a) s8)
    have sGi := Same.refl (msk (RmA.own ⟨na, ra, la, pa⟩ a) (upd H7 ca (.lst (cells.map V.int))))
    generalize hG : msk (RmA.own ⟨na, ra, la, pa⟩ a) (upd H7 ca (.lst (cells.map V.int))) = G at cG sG sGi
    have sGi : Same G (msk (RmA.own ⟨na, ra, la, pa⟩ a) (upd H7 ca (.lst (cells.map V.int)))) := by rw [hG]; exact Same.refl _
    clear hG
    have hrle : ∀ {rm : Rm} {nd : Nd} {i : Nat}, Sim n0 i rm nd → i ≤ 100 → rm.rows.length ≤ 10000 := fun S hi => by have := S.rws; omega
    refine ⟨ca, rfl, ⟨_, SqL.of upd_same⟩, for_list (K := K) (a := ca) (xs := cells.map V.int) (fun i σ H' => ∃ (b3 b4 b5 : Option V) (A : RmA) (rm : Rm) (nd : Nd), σ = [some (.ref sa), some (.bl true), some (.ref a), b3, b4, b5] ∧
      Same G (msk (A.own a) H') ∧ RmR H H' a A rm ∧ Sim n0 i rm nd) ?_ ?_ ?_ ?_⟩
    · exact ⟨_, _, _, _, _, _, rfl, sGi, R8, S0⟩
    · rintro i σ H' hi ⟨b3, b4, b5, A, rm, nd, rfl, sA, R, S⟩
      exact SqL.of ((sA.trans msk_same) _ _ cG)
    · rintro i x σ H' hx ⟨b3, b4, b5, A, rm, nd, rfl, sA, R, S⟩
      rw [List.getElem?_map] at hx
      cases ec : cells[i]? with
      | none => rw [ec] at hx; cases hx
      | some c =>
        rw [ec] at hx
        cases hx
        have hi : i ≤ 60 := by have := (List.getElem?_eq_some_iff.mp ec).1; omega
        obtain ⟨ob, hob, hO⟩ := R.ob
        obtain ⟨g1, g2, g3, g4, g5, g6, g7, g8⟩ := hO.get hob
        have erest : (rm.hand : Int) - rm.taken = ((rm.hand - rm.taken : Nat) : Int) := by have := S.le; omega
        refine ⟨_, rfl, a, _, rfl, g1, _, rfl, a, _, rfl, g3, _, _, rfl, rfl, ?_⟩
        show tSeq _ _ _ _ _
        refine ⟨fun σ' H'' => ∃ (A : RmA) (rm : Rm) (nd : Nd), σ' = [some (.ref sa), some (.bl true), some (.ref a), some (.int c), some (.int ((rm.hand - rm.taken : Nat) : Int)), b5] ∧
          Same G (msk (A.own a) H'') ∧ RmR H H'' a A rm ∧ Sim n0 i rm nd, ?_, ?_⟩
        · have stay : ∀ H'', Same H' H'' → ∃ (A : RmA) (rm' : Rm) (nd : Nd), [some (.ref sa), some (.bl true), some (.ref a), some (.int c), some (.int ((rm.hand : Int) - rm.taken)), b5] = [some (.ref sa), some (.bl true), some (.ref a), some (.int c), some (.int ((rm'.hand - rm'.taken : Nat) : Int)), b5] ∧
              Same G (msk (A.own a) H'') ∧ RmR H H'' a A rm' ∧ Sim n0 i rm' nd := fun H'' s => ⟨A, rm, nd, by rw [erest], sA.trans (msk_mono s), R.grow s, S⟩
          refine ⟨_, rfl, a, _, rfl, g5, Nat.zero_le _, fun l hl => ?_⟩
          have s1 := sm_new (o := .lst []) hl
          refine ⟨_, _, dp_now (s1 _ _ R.nw), dp_now (row := []) upd_same, shaped_now _, shaped_now [], _, rfl, ?_⟩
          rw [eqv_now]
          by_cases hn : rm.now = []
          · exact iteE (by rw [decide_eq_true hn]; rfl) (iteF (stay _ s1))
          · refine iteU (by rw [decide_eq_false hn]; rfl) ⟨_, rfl, rfl, _, rfl, ?_⟩
            have d0 : (rm.hand : Int) - rm.taken = 0 → decide (V.int ((rm.hand : Int) - rm.taken) = V.int 0) = true := fun h => decide_eq_true (congrArg V.int h)
            have d1 : ¬ (rm.hand : Int) - rm.taken = 0 → decide (V.int ((rm.hand : Int) - rm.taken) = V.int 0) = false := fun h => decide_eq_false fun e => h (V.int.inj e)
            have d2 : c % 13 = 11 → decide (V.int (c % 13) = V.int 11) = true := fun h => decide_eq_true (congrArg V.int h)
            have d3 : ¬ c % 13 = 11 → decide (V.int (c % 13) = V.int 11) = false := fun h => decide_eq_false fun e => h (V.int.inj e)
            suffices hb : _ by
              by_cases h0 : (rm.hand : Int) - rm.taken = 0
              · exact iteU (d0 h0) (iteT hb)
              · refine iteE (d1 h0) ⟨_, rfl, _, rfl, iteT ⟨_, rfl, c, 13, rfl, rfl, p13, rfl, _, rfl, ?_⟩⟩
                by_cases h1 : c % 13 = 11
                · exact iteU (d2 h1) hb
                · exact iteE (d3 h1) (stay _ s1)
            refine ⟨_, rfl, a, A, rm, H, rfl, R.grow s1, S.le, hrle S (by omega), fun H2 A' s2 R2 => ?_⟩
            obtain ⟨ob2, hob2, hO2⟩ := R2.ob
            obtain ⟨c1, _⟩ := hO2.get hob2
            exact ⟨_, rfl, a, _, rfl, c1, A', rowEnd rm, work nd rm.now, rfl, (sA.trans (msk_mono s1)).trans s2, R2, S.rowEnd (by omega) hn⟩
        · rintro σ' H'' ⟨A, rm, nd, rfl, sA, R, S⟩
          refine ⟨_, rfl, c, rfl, fun H2 s2 => ?_⟩
          have sA2 := sA.trans (msk_mono (M := A.own a) s2)
          have R2 := R.grow s2
          have hle := S.le
          refine ⟨fun σ' H3 => ∃ st : Stch, σ' = [some (.ref sa), some (.bl true), some (.ref a), some (.int c), some (.int ((rm.hand - rm.taken : Nat) : Int)), some (.str (mkS st))] ∧ Same H2 H3 ∧ st.takes ≤ rm.hand - rm.taken, ?_, ?_⟩
          · refine ⟨_, rfl, stOf c, rfl, _, rfl, _, _, rfl, rfl, _, rfl, ?_⟩
            by_cases ht : (stOf c).takes ≤ rm.hand - rm.taken
            · exact iteE (decide_eq_false (by omega)) ⟨stOf c, rfl, Same.refl _, ht⟩
            · refine iteU (decide_eq_true (by omega)) ⟨_, rfl, c, 2, rfl, rfl, p2, "kp", c % 2, _, rfl, rfl, (by decide +kernel), at2 "kp" 107 112 (by decide +kernel) c, (by show 2 ≤ sizeLine; decide), fun l hl => ?_⟩
              by_cases h0 : rm.hand - rm.taken = 0
              · refine ⟨_, rfl, _, 1, rfl, l, _, _, .str (mkS .over), rfl, rfl, SqL.of upd_same, ?_, .over, rfl, sm_new hl, Nat.zero_le _⟩
                have e1 : (if (1 : Int) < ((rm.hand - rm.taken : Nat) : Int) then 1 else ((rm.hand - rm.taken : Nat) : Int)) = 0 := by
                  rw [h0]; rfl
                rw [e1]
                cases b2 c <;> decide +kernel
              · refine ⟨_, rfl, _, 1, rfl, l, _, _, .str (mkS (.plain (b2 c))), rfl, rfl, SqL.of upd_same, ?_, .plain (b2 c), rfl, sm_new hl, ?_⟩
                · have e1 : (if (1 : Int) < ((rm.hand - rm.taken : Nat) : Int) then 1 else ((rm.hand - rm.taken : Nat) : Int)) = 1 := by
                    by_cases q : (1 : Int) < ((rm.hand - rm.taken : Nat) : Int)
                    · rw [if_pos q]
                    · rw [if_neg q]; omega
                  rw [e1]
                  cases b2 c <;> decide +kernel
                · show 1 ≤ _; omega
          · rintro σ' H3 ⟨st, rfl, s3, hst⟩
            exact ⟨_, rfl, _, rfl, a, A, rm, st, H, rfl, R2.grow s3, S.lies_le (by omega), by have := S.nowb; omega, fun H4 s4 R4 => ⟨_, _, _, A, addM rm st, nd, rfl, (sA2.trans (msk_mono s3)).trans s4, R4, S.addM st hst⟩⟩
    · rintro σ H' ⟨b3, b4, b5, A, rm, nd, rfl, sA, R, S⟩
      rw [List.length_map] at S
      refine ⟨_, rfl, _, rfl, iteE rfl ?_⟩
      refine ⟨fun σ' H'' => ∃ (A : RmA) (rm : Rm) (nd : Nd), σ' = [some (.ref sa), some (.bl true), some (.ref a), b3, b4, b5] ∧ Same G (msk (A.own a) H'') ∧ RmR H H'' a A rm ∧ Sim n0 cells.length rm nd ∧ rm.now = [], ?_, ?_⟩
      · obtain ⟨ob, hob, hO⟩ := R.ob
        obtain ⟨g1, g2, g3, g4, g5, g6, g7, g8⟩ := hO.get hob
        refine ⟨_, rfl, a, _, rfl, g5, Nat.zero_le _, fun l hl => ?_⟩
        have s1 := sm_new (o := .lst []) hl
        refine ⟨_, _, dp_now (s1 _ _ R.nw), dp_now (row := []) upd_same, shaped_now _, shaped_now [], _, rfl, ?_⟩
        rw [eqv_now]
        by_cases hn : rm.now = []
        · exact iteE (by rw [decide_eq_true hn]; rfl) ⟨A, rm, nd, rfl, sA.trans (msk_mono s1), R.grow s1, S, hn⟩
        · exact iteU (by rw [decide_eq_false hn]; rfl) ⟨_, rfl, a, A, rm, H, rfl, R.grow s1, S.le, hrle S (by omega), fun H2 A' s2 R2 => ⟨A', rowEnd rm, work nd rm.now, rfl, (sA.trans (msk_mono s1)).trans s2, R2, S.rowEnd (by omega) hn, rfl⟩⟩
      · rintro σ' H'' ⟨A, rm, nd, rfl, sA, R, S, hn⟩
        obtain ⟨ob, hob, hO⟩ := R.ob
        obtain ⟨_, _, _, _, _, g6, _⟩ := hO.get hob
        obtain ⟨rvs, hra, hrA⟩ := R.rs
        exact ⟨_, rfl, a, _, rfl, g6, k H'' A.ra rvs rm nd cells.length ((sG.trans sA).trans msk_same) (R.fo _ (by simp [RmA.own])) hra (hrA.mono fun _ _ => RowQ.mono msk_same) S (by omega) hn⟩
end K34
set_option autoImplicit true
set_option Elab.async false
set_option linter.all false
set_option maxRecDepth 100000
set_option maxHeartbeats 400000
namespace K34
open PySem PySem.Spec PyProof.Rows L2
variable {P : Program} {w : World} {K : PySem.W.Frag} {mg : Str → Option Value} {base : Heap}

/-! ### _law_wide -/
def spWide (K : PySem.W.Frag) : Sp := fun vs H Q _ => ∃ (a : Addr) (cs : List Int), vs = [.ref a] ∧ SqL K H a (cs.map V.int) ∧ cs.length ≤ 10000 ∧
  ∀ H' a' (cs' : List Int), Same H H' → SqL K H' a' (cs'.map V.int) → Q (.ref a') H'
theorem cpow6 : CPow 10 6 := ⟨by decide, by decide, by decide⟩
theorem d6 (n : Int) : CDiv n (10 ^ (6 : Int).toNat) := ⟨(by decide : (0 : Int) < 10 ^ (6 : Int).toNat), (by decide : (10 : Int) ^ (6 : Int).toNat < 1073741824)⟩
theorem n6 : (10 : Int) ^ (6 : Int).toNat ≠ 0 := by decide
theorem sc_law_wide : FnScope ["_law_script", "_law_found", "_law_number"] ["_law_script"] (defScope s_law_wide) := ⟨rfl, rfl, rfl, by decide +kernel, rfl, by decide +kernel, by decide +kernel⟩
theorem ok_law_wide (Z : Zt K mg) : Cal P w K mg base "_law_wide" 1 ["_law_script"] (spWide K) := by
  obtain ⟨fd, F⟩ := Z.du_law_wide
  refine ⟨Z.gl_law_wide, F.kp, fd, F.ok sc_law_wide (fun vs H Q E h => ?_) (fun cdv A outer s H vs Q E hr h => ?_), FunD.bindsN F fun _ _ _ _ _ _ us hl => match us, hl with | [_], _ => rfl⟩
  · obtain ⟨a, cs, rfl, _⟩ := h
    rfl
  · obtain ⟨a, cs, rfl, ha, hl, k⟩ := h
    refine ⟨_, PSs.nox (pss_cons (ps_if (PW.pt (pw_or (pt_cmpR op_lt (pe_callB call_len_seq (by rfl) Z.fr_len PySem.boot_len (pa_cons (pv 0) pa_nil)) pe_int (nomark _)) (pw_or1 (pt_cmpR op_eq (pe_op op_mod (pe_op op_fdiv (pe_ix ix_list (pv 0) pe_int (fun _ _ => rfl)) pe_int) pe_int) pe_int (nomark _))))) (pss_one (ps_ret (pv 0))) pss_nil)
      (pss_cons (ps_set (i := 1) sc_law_wide.nd rfl (Or.inl rfl) (pe_lst pa_nil))
      (pss_cons (ps_set (i := 2) sc_law_wide.nd rfl (Or.inl rfl) (pe_callB call_abs (by rfl) Z.fr_abs (by decide +kernel) (pa_cons (pe_ix ix_list (pv 0) pe_int (fun _ _ => rfl)) pa_nil)))
      (pss_cons (ps_while PassesOwn.never (PW.pt (pw_and (pt_cmpR op_gt (pv 2) pe_int (nomark _)) (pw_and1 (pt_cmpR op_lt (pe_callB call_len_seq (by rfl) Z.fr_len PySem.boot_len (pa_cons (pv 1) pa_nil)) pe_int (nomark _))))) (pss_cons (ps_expr (pe_bm PySem.F.plainAttrs_list PySem.F.slot_list_append PySem.F.type_list_append mt_append (pv 1) (pa_cons (pe_op op_modN (pv 2) (pe_op op_pow pe_int pe_int)) pa_nil)))
      (pss_one (ps_set (i := 2) sc_law_wide.nd rfl (Or.inl rfl) (pe_op op_fdiv (pv 2) (pe_op op_pow pe_int pe_int))))))
      (pss_one (ps_ret (pe_op op_cat (pv 1) (pe_slice sl_list (pv 0) (po_some pe_int) po_none)))))))), ?_⟩
    refine ⟨_, rfl, a, _, rfl, .inl ha, _, _, rfl, rfl, _, rfl, ?_⟩
    by_cases hlen : cs.length < 2
    · refine iteU (decide_eq_true ?_) (iteT ⟨_, rfl, k H a _ (Same.refl _) ha⟩)
      rw [List.length_map]; omega
    refine iteE (decide_eq_false (by rw [List.length_map]; omega)) ?_
    obtain ⟨c0, c1, cs, rfl⟩ : ∃ c0 c1 cs', cs = c0 :: c1 :: cs' := by
      cases cs with
      | nil => exact absurd (by show 0 < 2; decide) hlen
      | cons c0 cs =>
        cases cs with
        | nil => exact absurd (by show 1 < 2; decide) hlen
        | cons c1 cs => exact ⟨c0, c1, cs, rfl⟩
    refine ⟨_, rfl, a, _, 0, .int c0, rfl, rfl, ha, at_of (j := 0) rfl rfl, _, 64, rfl, rfl, ⟨by decide, by decide⟩, _, 2, rfl, rfl, p2, rfl, _, rfl, ?_⟩
    by_cases h1 : c0 / 64 % 2 = 1
    · exact iteU (decide_eq_true (congrArg V.int h1)) ⟨_, rfl, k H a _ (Same.refl _) ha⟩
    refine iteE (decide_eq_false fun e => h1 (V.int.inj e)) ?_
    refine ⟨Nat.zero_le _, fun l hl2 => ?_⟩
    have s1 := sm_new (o := .lst []) hl2
    refine ⟨_, rfl, a, _, 1, .int c1, rfl, rfl, sqM s1 ha, at_of (j := 1) rfl rfl, c1, rfl, ?_⟩
    have hG : Same H (msk [l] (upd H l (.lst []))) := msk_into s1 fun a ha => by rw [List.mem_singleton.mp ha]; exact hl2
    refine ⟨fun m σ H' => ∃ (fs : List Int) (n : Int), m = 63 - fs.length ∧ fs.length ≤ 63 ∧ σ = [some (.ref a), some (.ref l), some (.int n)] ∧ Same H (msk [l] H') ∧ H' l = some (.lst (fs.map V.int)), ⟨_, [], _, rfl, by decide, rfl, hG, upd_same⟩, ?_⟩
    rintro m σ H' ⟨fs, n, rfl, hf, rfl, hS, hL⟩
    have done : ∀ (D : VK), (∀ H' a' (cs' : List Int), Same H H' → SqL K H' a' (cs'.map V.int) → D (.ref a') H') → True := fun _ _ => True.intro
    suffices hrest : _ by
      refine ⟨_, rfl, _, _, rfl, rfl, _, rfl, ?_⟩
      by_cases h2 : ¬ 0 < n
      · exact iteE (decide_eq_false h2) (iteF hrest)
      · have h2 := Classical.not_not.mp h2
        refine iteU (decide_eq_true h2) ⟨_, rfl, l, _, rfl, .inl (SqL.of hL), _, _, rfl, rfl, _, rfl, ?_⟩
        by_cases h3 : fs.length < 63
        · refine iteU (decide_eq_true (by rw [List.length_map]; omega)) ⟨_, fun σ' H' h => h, ?_⟩
          refine ⟨_, rfl, .inl ⟨rfl, _, SqL.of hL⟩, _, rfl, 10, 6, rfl, rfl, cpow6, n, 10 ^ (6 : Int).toNat, rfl, rfl, n6, l, _, _, rfl, rfl, hL, by rw [List.length_map]; exact szt (by omega), ?_⟩
          refine ⟨_, rfl, 10, 6, rfl, rfl, cpow6, n, 10 ^ (6 : Int).toNat, rfl, rfl, d6 n, ?_⟩
          refine ⟨63 - (fs.length + 1), by omega, fs ++ [n.fmod (10 ^ (6 : Int).toNat)], _, by rw [List.length_append]; rfl, by rw [List.length_append]; show fs.length + 1 ≤ 63; omega, rfl, ?_, ?_⟩
          · rw [msk_upd (by simp)]; exact hS
          · rw [upd_same, List.map_append]; rfl
        · exact iteE (decide_eq_false (by rw [List.length_map]; omega)) hrest
    refine ⟨_, rfl, _, rfl, 2, rfl, a, _, rfl, sqM (hS.trans msk_same) ha, fun q hq => ?_⟩
    have s2 := sm_new (o := .lst (cutV ((c0 :: c1 :: cs).map V.int) (some 2) none)) hq
    have ec : cutV ((c0 :: c1 :: cs).map V.int) (some 2) none = cs.map V.int := cut_drop (vs := (c0 :: c1 :: cs).map V.int) (t := 2) (by simp)
    refine ⟨l, q, _, _, rfl, rfl, s2 _ _ hL, upd_same, ?_, fun z hz => ?_⟩
    · rw [ec, List.length_map, List.length_map]
      simp only [List.length_cons] at hl
      exact szl (by omega)
    · refine k _ z (fs ++ cs) ((hS.trans msk_same).trans (s2.trans (sm_new hz))) (SqL.of ?_)
      rw [upd_same, ec, List.map_append]
end K34
set_option autoImplicit true
set_option Elab.async false
set_option linter.all false
set_option maxRecDepth 100000
set_option maxHeartbeats 1000000
namespace K34
open PySem PySem.Spec PyProof.Rows L2
variable {P : Program} {w : World} {K : PySem.W.Frag} {mg : Str → Option Value} {base : Heap}

/-! ### _law_asked_so -/
theorem ref_non {a : Addr} : decide (V.ref a = V.non) = false := decide_eq_false fun e => nomatch e
theorem fld_len (st : Stch) : (fldS st).length ≤ 4 := by cases st <;> simp [fldS]
theorem StR.msk {H : Hp} {p : Addr} {A : NdA} {nd : Nd} {v : V} {st : Stch} (N : NdR K H p A nd) (h : StR K H v st) : StR K (msk (A.own p) H) v st := by
  obtain ⟨a, dx, rfl, ha⟩ := h
  refine ⟨a, dx, rfl, ?_⟩
  rw [msk_out fun q => ?_]
  · exact ha
  · obtain ⟨v1, e1, _⟩ := N.rt
    obtain ⟨v2, e2, _⟩ := N.gn
    obtain ⟨v3, e3, _⟩ := N.md
    obtain ⟨o, e4, ks, f, e5, _⟩ := N.hd
    unfold NdA.own at q
    simp only [List.mem_cons, List.not_mem_nil, or_false] at q
    rcases q with q | q | q | q | q
    · rw [q, N.ob] at ha
      have h1 := HO.ins.inj (Option.some.inj ha)
      have h2 := congrArg List.length h1.2.2
      have := fld_len st
      rw [← h2] at this
      exact absurd this (by show ¬ 7 ≤ 4; decide)
    · rw [q, e1] at ha; cases ha
    · rw [q, e4, e5] at ha; cases ha
    · rw [q, e2] at ha; cases ha
    · rw [q, e3] at ha; cases ha
theorem ndAt_succ {n0 : Nat} {rows : List (List Stch × Bool)} {j : Nat} {q : List Stch × Bool} (h : rows[j]? = some q) : ndAt n0 rows (j + 1) = work (ndAt n0 rows j) q.1 := by
  unfold ndAt
  rw [List.take_add_one, h, List.foldl_append]
  rfl
theorem keys_at {H : Hp} : ∀ {kvs : List (List Key × V)} {bs : List Addr}, IsKeys H kvs bs → ∀ {ns : List Name} {f : Name → V}, kvs = dcl ns f → All2 (NmR H) (bs.map V.ref) ns := by
  intro kvs bs h
  induction h with
  | nil =>
    intro ns f e
    cases ns with
    | nil => exact .nil
    | cons n ns => cases e
  | cons hp hr ih =>
    intro ns f e
    cases ns with
    | nil => cases e
    | cons n ns =>
      have e1 := (List.cons.inj e).1
      have e2 := (List.cons.inj e).2
      rw [e1] at hp
      exact (All2.one ⟨_, rfl, hp⟩).append (ih e2)
theorem AboveR.mono' {H H' : Hp} {a : Addr} {rows : Rows} {al : Name → Addr} (s : Same H H') (h1 : H a = some (.dT (dcl (names rows) fun n => .ref (al n)))) (h2 : ∀ n, n ∈ names rows → NmsL H (al n) (abv rows n)) : AboveR H' a rows := ⟨al, .inl (s _ _ h1), fun n hn => (h2 n hn).mono s⟩
def spAsked (K : PySem.W.Frag) : Sp := fun vs H Q _ => ∃ (sa : Addr) (cs : List Int), vs = [.ref sa] ∧ SqL K H sa (cs.map V.int) ∧ ∀ H', Q (.bl true) H'
theorem sc_law_asked_so : FnScope ["_law_script", "_law_needles", "_law_marks", "_law_turn", "_law_web", "_law_above_here", "_law_ends_here", "_law_told", "_law_some", "_law_gone", "_law_name_here", "_law_cell", "_law_found", "_law_mark_here"] ["_law_script"] (defScope s_law_asked_so) := ⟨rfl, rfl, rfl, by decide +kernel, rfl, by decide +kernel, by decide +kernel⟩
theorem ok_law_asked_so (Z : Zt K mg) : Cal P w K mg base "_law_asked_so" 5 ["_law_script"] (spAsked K) := by
  obtain ⟨fd, F⟩ := Z.du_law_asked_so
  have c_Needles := i_Needles (P := P) (w := w) (base := base) Z
  have c_law_cell_at := ok_law_cell_at (P := P) (w := w) (base := base) Z
  have c_law_rows := ok_law_rows (P := P) (w := w) (base := base) Z
  have c_work := ok_work (P := P) (w := w) (base := base) Z
  have c_web := ok_web (P := P) (w := w) (base := base) Z
  have c_stitch := ok_stitch (P := P) (w := w) (base := base) Z
  have c_law_above := ok_law_above (P := P) (w := w) (base := base) Z
  have c_law_ends := ok_law_ends (P := P) (w := w) (base := base) Z
  have c_undone := ok_undone (P := P) (w := w) (base := base) Z
  have c_law_ties_hold := ok_law_ties_hold (P := P) (w := w) (base := base) Z
  have c_law_listed := ok_law_listed (P := P) (w := w) (base := base) Z
  have c_law_falls := ok_law_falls (P := P) (w := w) (base := base) Z
  have c_way_up := ok_way_up (P := P) (w := w) (base := base) Z
  have c_law_walked := ok_law_walked (P := P) (w := w) (base := base) Z
  refine ⟨Z.gl_law_asked_so, F.kp, fd, F.ok sc_law_asked_so (fun vs H Q E h => ?_) (fun cdv A outer s H vs Q E hr h => ?_), FunD.bindsN F fun _ _ _ _ _ _ us hl => match us, hl with | [_], _ => rfl⟩
  · obtain ⟨sa, cs, rfl, _⟩ := h
    rfl
  · obtain ⟨sa, cs, rfl, hsa, k⟩ := h
    have hu := hu_of hr
    refine ⟨_, PSs.nox (pss_cons (ps_set (i := 1) sc_law_asked_so.nd rfl (Or.inl rfl) (pe_calid c_Needles (hr.mono (by decide)) (by rfl) (pa_cons pe_str (pa_cons (pe_op op_mod (pe_cal c_law_cell_at (hr.mono (by decide)) (by rfl) (pa_cons (pv 0) (pa_cons pe_int pa_nil))) pe_int) pa_nil))))
      (pss_cons (ps_for PassesOwn.never rfl (pi_list (pe_cal c_law_rows (hr.mono (by decide)) (by rfl) (pa_cons (pv 0) (pa_cons pe_bl pa_nil)))) (pg_tup (by rfl) (pgs_cons (pg_name (i := 2) sc_law_asked_so.nd rfl (Or.inl rfl)) (pgs_cons (pg_name (i := 3) sc_law_asked_so.nd rfl (Or.inl rfl)) pgs_nil))) (pss_one (ps_expr (pe_calm c_work (hr.mono (by decide)) (pv 1) (pa_cons (pe_lc (own := [("_law_mark_here", 13)]) (by rfl) sc_law_asked_so.nd (pi_list (pv 2)) (blkOk_by (own := [("_law_mark_here", 13)]) (N := ["_law_script", "_law_needles", "_law_marks", "_law_turn", "_law_web", "_law_above_here", "_law_ends_here", "_law_told", "_law_some", "_law_gone", "_law_name_here", "_law_cell", "_law_found", "_law_mark_here"]) (sc := defScope s_law_asked_so) (by decide +kernel)) (fun _ _ _ _ _ => (pg_name (i := 13) sc_law_asked_so.nd rfl (Or.inl rfl) (Or.inr rfl))) (fun _ _ _ _ _ => pts_nil) (fun _ _ _ _ _ => (pe_cal c_stitch (hr.mono (by decide)) (by rfl) (pa_cons (pv 13) pa_nil)))) (pa_cons (pv 3) pa_nil))))))
      (pss_cons (ps_set (i := 4) sc_law_asked_so.nd rfl (Or.inl rfl) (pe_calm0 c_web (hr.mono (by decide)) (pv 1)))
      (pss_cons (ps_set (i := 5) sc_law_asked_so.nd rfl (Or.inl rfl) (pe_cal c_law_above (hr.mono (by decide)) (by rfl) (pa_cons (pe_ix ix_tup (pv 4) pe_int (fun _ _ => rfl)) pa_nil)))
      (pss_cons (ps_set (i := 6) sc_law_asked_so.nd rfl (Or.inl rfl) (pe_cal c_law_ends (hr.mono (by decide)) (by rfl) (pa_cons (pv 4) pa_nil)))
      (pss_cons (ps_set (i := 7) sc_law_asked_so.nd rfl (Or.inl rfl) (pe_cal c_undone (hr.mono (by decide)) (by rfl) (pa_cons (pv 4) (pa_cons (pe_callTy call_list_of (by rfl) Z.fr_list (by decide +kernel) (pa_cons (pe_ix ix_tup (pv 4) pe_int (fun _ _ => rfl)) pa_nil)) pa_nil))))
      (pss_cons (ps_if (PW.pt (pw_or (pt_not (pt_val (pe_cal c_law_ties_hold (hr.mono (by decide)) (by rfl) (pa_cons (pv 5) (pa_cons (pv 6) pa_nil))))) (pw_or (pt_not (pt_val (pe_cal c_law_listed (hr.mono (by decide)) (by rfl) (pa_cons (pv 7) pa_nil)))) (pw_or1 (pt_not (pt_val (pe_cal c_law_falls (hr.mono (by decide)) (by rfl) (pa_cons (pv 5) (pa_cons (pv 6) (pa_cons (pv 7) pa_nil)))))))))) (pss_one (ps_ret pe_bl)) pss_nil)
      (pss_cons (ps_set (i := 8) sc_law_asked_so.nd rfl (Or.inl rfl) (pe_callTy (call_list_dT rfl) (by rfl) Z.fr_list (by decide +kernel) (pa_cons (pv 5) pa_nil)))
      (pss_cons (ps_set (i := 9) sc_law_asked_so.nd rfl (Or.inl rfl) pe_dnewT)
      (pss_cons (ps_for PassesOwn.never rfl (pi_list (pv 7)) (pg_name (i := 10) sc_law_asked_so.nd rfl (Or.inl rfl)) (pss_one (ps_dput hu (pv 9) (pv 10) pe_bl rfl)))
      (pss_cons (ps_for PassesOwn.never rfl (pi_list (pe_slice sl_list (pv 0) (po_some pe_int) (po_some pe_int))) (pg_name (i := 11) sc_law_asked_so.nd rfl (Or.inl rfl)) (pss_one (ps_if (pt_cmpR (op_neD hr.units) (pv 8) (pe_lst pa_nil) (nomark _)) (pss_cons (ps_set (i := 10) sc_law_asked_so.nd rfl (Or.inl rfl) (pe_ix ix_list (pv 8) (pe_op op_modN (pe_op op_fdiv (pv 11) pe_int) (pe_callB call_len_seq (by rfl) Z.fr_len PySem.boot_len (pa_cons (pv 8) pa_nil))) (fun _ _ => rfl)))
      (pss_cons (ps_set (i := 12) sc_law_asked_so.nd rfl (Or.inl rfl) (pe_cal c_way_up (hr.mono (by decide)) (by rfl) (pa_cons (pv 4) (pa_cons (pe_callTy call_list_of (by rfl) Z.fr_list (by decide +kernel) (pa_cons (pe_ix ix_tup (pv 4) pe_int (fun _ _ => rfl)) pa_nil)) (pa_cons (pv 10) pa_nil)))))
      (pss_cons (ps_if (pt_cmpR op_ne (pe_cmp (pc_isN (pv 12))) (pe_cmp (pc_din hu (pv 10) (pv 9))) (nomark _)) (pss_one (ps_ret pe_bl)) pss_nil)
      (pss_one (ps_if (PW.pt (pw_and (pt_cmp (pc_notN (pv 12))) (pw_and1 (pt_not (pt_val (pe_cal c_law_walked (hr.mono (by decide)) (by rfl) (pa_cons (pv 12) (pa_cons (pv 10) (pa_cons (pv 5) (pa_cons (pv 6) (pa_cons (pv 9) pa_nil))))))))))) (pss_one (ps_ret pe_bl)) pss_nil))))) pss_nil)))
      (pss_one (ps_ret pe_bl))))))))))))), ?_⟩
    have e9 : cs.getD 0 0 % 9 = ((cs.getD 0 0 % 9).toNat : Int) := by omega
    have h08 : (cs.getD 0 0 % 9).toNat ≤ 8 := by omega
    refine ⟨_, rfl, sa, cs, rfl, hsa, _, 9, rfl, rfl, p9, ?_⟩
    intro x dx nx nd ne
    refine ⟨x, dx, (cs.getD 0 0 % 9).toNat, congrArg (fun z => [V.ref x, V.str "flat", V.int z, V.non, V.non]) e9, by omega, upd_same, fun H1 A1 sm1 N1 => ⟨rfl, ?_⟩⟩
    have sH1 : Same H (msk (A1.own x) H1) := fun b u e => sm1 b u (by
      rw [msk_out (by simp [ne_of_none e nx]), upd_ne (ne_of_none e nx), upd_ne (ne_of_none e nd)]
      exact e)
    -- the rows
    refine ⟨_, rfl, sa, cs, rfl, sqM (sH1.trans msk_same) hsa, fun H2 ra rvs rm ndE i2 s2 fra hra hrA S hi hnow => ?_⟩
    generalize (cs.getD 0 0 % 9).toNat = n0 at S N1 h08
    have N2 := N1.grow s2
    have fr1 : ∀ {b : Addr}, H1 b = none → b ∉ A1.own x := fun {b} h q => by
      obtain ⟨v1, e1, _⟩ := N1.rt
      obtain ⟨v2, e2, _⟩ := N1.gn
      obtain ⟨v3, e3, _⟩ := N1.md
      obtain ⟨o, e4, _⟩ := N1.hd
      unfold NdA.own at q
      simp only [List.mem_cons, List.not_mem_nil, or_false] at q
      rcases q with q | q | q | q | q
      · rw [q, N1.ob] at h; cases h
      · rw [q, e1] at h; cases h
      · rw [q, e4] at h; cases h
      · rw [q, e2] at h; cases h
      · rw [q, e3] at h; cases h
    have gra : (msk (A1.own x) H2) ra = some (.lst rvs) := by rw [msk_out (fr1 fra)]; exact hra
    have grA : All2 (RowQ H1 (msk (A1.own x) H2)) rvs rm.rows := hrA.mono fun v q ⟨t, n, e, h1, h2, h3, h4⟩ => ⟨t, n, e, by rw [msk_out (fr1 h3)]; exact h1, by rw [msk_out (fr1 h4)]; exact h2, h3, h4⟩
    have sG := sH1.trans (msk_mono (M := A1.own x) s2)
    have sG0 : Same (msk (A1.own x) H2) (msk (A1.own x) H2) := Same.refl _
    generalize hG : msk (A1.own x) H2 = G at gra grA sG
    rw [hG] at sG0
    have sG0 : Same G (msk (A1.own x) H2) := by rw [hG]; exact Same.refl _
    clear hG
    refine ⟨ra, rfl, ⟨_, SqL.of hra⟩, for_list (K := K) (a := ra) (xs := rvs) (fun j σ H' => ∃ (b2 b3 : Option V) (A : NdA), σ = [some (.ref sa), some (.ref x), b2, b3, none, none, none, none, none, none, none, none, none, none] ∧
      Same G (msk (A.own x) H') ∧ NdR K H' x A (ndAt n0 rm.rows j)) ?_ ?_ ?_ ?_⟩
    · exact ⟨_, _, A1, rfl, sG0, N2⟩
    · rintro j σ H' hj ⟨b2, b3, A, rfl, sA, N⟩
      exact SqL.of ((sA.trans msk_same) _ _ gra)
    · rintro j v σ H' hv ⟨b2, b3, A, rfl, sA, N⟩
      obtain ⟨q, eq, t, n, rfl, ht, hn, _⟩ := grA.getV hv
      have sA' := sA.trans (msk_same (M := A.own x))
      refine ⟨t, _, rfl, SqT.of (sA' _ _ ht), rfl, _, _, rfl, _, _, rfl, rfl, ?_⟩
      have Gd := S.ok j q eq
      refine ⟨_, rfl, x, A.dx, _, rfl, N.ob, rfl, _, rfl, n, rfl, ⟨_, SqL.of (sA' _ _ hn)⟩, fun Dl hDl => ?_⟩
      refine lc_list (K := K) (a := n) (xs := q.1.map strS) (fun j5 H5 => Same H' (msk [Dl] H5) ∧ ∃ ws, H5 Dl = some (.lst ws) ∧ All2 (StR K (msk [Dl] H5)) ws (q.1.take j5)) ?_ ?_ ?_ ?_
      · exact ⟨msk_into (sm_new hDl) fun a ha => by rw [List.mem_singleton.mp ha]; exact hDl, [], upd_same, .nil⟩
      · rintro j5 H5 hj5 ⟨q1, _⟩
        exact SqL.of ((q1.trans msk_same) _ _ (sA' _ _ hn))
      · rintro j5 v5 H5 hx5 ⟨q1, ws, q2, q3⟩
        rw [List.getElem?_map] at hx5
        cases es : q.1[j5]? with
        | none => rw [es] at hx5; cases hx5
        | some st =>
          rw [es] at hx5
          cases hx5
          refine ⟨rfl, _, rfl, st, True.intro, rfl, fun H6 v6 s6 r6 => ⟨ws, s6 _ _ q2, ?_, ?_, _, upd_same, ?_⟩⟩
          · have := Gd.row
            rw [q3.1, List.length_take]; exact szt (by omega)
          · rw [msk_upd (by simp)]
            exact q1.trans (msk_mono s6)
          · rw [msk_upd (by simp), take_snoc es]
            obtain ⟨a6, dx6, rfl, h6⟩ := r6
            have hne : a6 ≠ Dl := fun e => by rw [e, s6 _ _ q2] at h6; cases h6
            exact (q3.mono fun _ _ => StR.mono (msk_mono s6)).snoc ⟨a6, dx6, rfl, by rw [msk_out (by simp [hne])]; exact h6⟩
      · rintro H5 ⟨q1, ws, q2, q3⟩
        rw [List.length_map, List.take_length] at q3
        have s5 := q1.trans (msk_same (M := [Dl]))
        have N5 := N.grow s5
        have hDO : Dl ∉ A.own x := fun e => by
          obtain ⟨v1, e1, _⟩ := N.rt
          obtain ⟨v2, e2, _⟩ := N.gn
          obtain ⟨v3, e3, _⟩ := N.md
          obtain ⟨o, e4, _⟩ := N.hd
          unfold NdA.own at e
          simp only [List.mem_cons, List.not_mem_nil, or_false] at e
          rcases e with e | e | e | e | e
          · rw [e, N.ob] at hDl; cases hDl
          · rw [e, e1] at hDl; cases hDl
          · rw [e, e4] at hDl; cases hDl
          · rw [e, e2] at hDl; cases hDl
          · rw [e, e3] at hDl; cases hDl
        refine ⟨_, rfl, x, Dl, A, ndAt n0 rm.rows j, q.1, q.2, _, rfl, N5, ⟨ws, by rw [msk_out hDO]; exact q2, q3.mono fun _ _ h => StR.msk N5 (h.mono msk_same)⟩, Gd.row, Gd.right, Gd.gone, Gd.made, Gd.ft, Gd.ok.pre Gd.ft, fun H6 A6 z sm6 N6 => ?_⟩
        exact ⟨_, _, A6, rfl, (sA.trans (msk_mono s5)).trans sm6, by rw [ndAt_succ eq]; exact N6⟩
    · rintro σ H3 ⟨b2, b3, A, rfl, sA, N⟩
      rw [hrA.1, ← S.at_] at N
      have ht0 : rm.taken = 0 := by rw [S.taken, hnow]; rfl
      have hm0 := ndAt_made n0 rm.rows rm.rows.length (Nat.le_refl _)
      rw [← S.at_] at hm0
      have hps := S.psi
      have hho := S.hand
      have hot := S.other
      have hrw := S.rws
      refine ⟨_, rfl, x, A.dx, _, rfl, N.ob, rfl, x, A, ndE, rfl, N, by omega, by omega, fun H4 v off s4 hp hw => ?_⟩
      have hsm := web_small S (by omega) hnow hp
      have hwf : Wf (webOf ndE off).rows := S.nok.wf
      have hties := web_ties S.nok hp
      have hfalls := web_falls S.nok hp
      have hwalk := fun {n last : Name} {p : List Name} (a : WayTo (webOf ndE off) (webOf ndE off).ly n p last) b => web_walk S.nok hp a b
      generalize webOf ndE off = d at hw hsm hwf hties hfalls hwalk
      have hlyl := hsm.ly
      have hsa4 : SqL K H4 sa (cs.map V.int) := sqM ((sG.trans (sA.trans msk_same)).trans s4) hsa
      clear S N hnow hp
      have hw0 := hw
      obtain ⟨t, wra, wla, wka, woa, rfl, hT, hrows, hly, hkp, hoff⟩ := hw
      -- above, ends, told
      refine ⟨_, rfl, t, _, 0, _, rfl, rfl, SqT.of hT, rfl, wra, d, rfl, hrows, hsm, hwf, fun H5 aa s5 f5 hA => ?_⟩
      refine ⟨_, rfl, _, d, rfl, hw0.mono s5, hsm, fun H6 ee s6 f6 hE => ?_⟩
      have s56 := s5.trans s6
      have hAe : ee ≠ aa := fun q => by
        obtain ⟨al, h1, _⟩ := hA
        rw [q, h1] at f6; cases f6
      obtain ⟨lvs, hl1, hlA⟩ := hly
      refine ⟨_, rfl, _, rfl, t, _, 1, _, rfl, rfl, SqT.of (s56 _ _ hT), rfl, wla, _, rfl, .inl (SqL.of (s56 _ _ hl1)), fun l1 hl2 => ?_⟩
      have s7 := sm_new (o := .lst lvs) hl2
      have s57 := s56.trans s7
      refine ⟨_, d, l1, d.ly, rfl, hw0.mono s57, hsm, hwf, ⟨lvs, upd_same, hlA.mono fun _ _ => NmR.mono s57⟩, fun n h => h, hlyl, fun H8 ta s8 f8 hTl => ?_⟩
      generalize htl : told d.rows (goneD d d.ly) = tl at hTl hfalls hwalk
      have s58 := s57.trans s8
      have hA8 := hA.mono ((s6.trans s7).trans s8)
      have hE8 := hE.mono (s7.trans s8)
      have htll : tl.length ≤ 100000 := by
        have h1 : ∀ m, m ∈ tl → m ∈ names d.rows := hfalls.sub
        exact Nat.le_trans (List.Nodup.length_le_of_subset hfalls.nd h1) hsm.nm
      -- the three looks
      refine ⟨_, rfl, _, rfl, aa, ee, d, rfl, hA8, hE8, hAe, hties, fun H9 s9 => ⟨true, rfl, iteE rfl ?_⟩⟩
      refine ⟨_, rfl, ta, tl, rfl, hTl.mono s9, htll, fun H10 s10 => ⟨true, rfl, iteE rfl ?_⟩⟩
      have s910 := s9.trans s10
      refine ⟨_, rfl, _, rfl, _, rfl, aa, ee, ta, d, tl, rfl, hA8.mono s910, hE8.mono s910, hAe, hTl.mono s910, htll, hsm, hfalls, fun H11 s11 => ⟨true, rfl, iteE rfl ?_⟩⟩
      have s911 := s910.trans s11
      have hA11 := hA8.mono s911
      have hE11 := hE8.mono s911
      have hT11 := hTl.mono s911
      have hw11 := hw0.mono (s58.trans s911)
      have hsa11 := sqM (s58.trans s911) hsa4
      have hT411 := (s58.trans s911) _ _ hT
      have hl411 := (s58.trans s911) _ _ hl1
      have hlA11 := hlA.mono fun _ _ => NmR.mono (s58.trans s911)
      -- some = list(above)
      obtain ⟨al, hal, halN⟩ := hA11
      refine ⟨_, rfl, aa, _, rfl, .inl hal, fun so bs hso hks => ?_⟩
      have hsoA := keys_at hks rfl
      have s12 := sm_new (o := .lst (bs.map V.ref)) hso
      intro g hg
      have s13 := sm_new (o := .dT []) hg
      have s1213 := s12.trans s13
      obtain ⟨tvs, htv, htA⟩ := hT11
      have hGG : Same (upd H11 so (.lst (bs.map V.ref))) (msk [g] (upd (upd H11 so (.lst (bs.map V.ref))) g (.dT []))) := msk_into s13 fun a ha => by rw [List.mem_singleton.mp ha]; exact hg
      refine ⟨_, rfl, ta, rfl, ⟨_, SqL.of (s1213 _ _ htv)⟩, for_list (K := K) (a := ta) (xs := tvs) (fun i σ H' => ∃ b10 : Option V, σ = [some (.ref sa), some (.ref x), b2, b3, some (.ref t), some (.ref aa), some (.ref ee), some (.ref ta), some (.ref so), some (.ref g), b10, none, none, none] ∧ DFlg (upd H11 so (.lst (bs.map V.ref))) H' g (insAll [] (tl.take i)) tru) ?_ ?_ ?_ ?_⟩
      · exact ⟨none, rfl, hGG, upd_same⟩
      · rintro i σ H' hi ⟨b10, rfl, hd⟩
        exact SqL.of (hd.same _ _ (s12 _ _ htv))
      · rintro i v σ H' hv ⟨b10, rfl, hd⟩
        obtain ⟨n, en, tn, rfl, htn⟩ := htA.getV hv
        refine ⟨_, rfl, _, rfl, g, _, rfl, hd.dput (n := n) (hd.same _ _ (s12 _ _ htn)) (by have := len_insAll (l := tl.take i) []; simp only [List.length_nil, List.length_take] at this; omega), _, rfl, ?_⟩
        rw [take_snoc en, insAll_snoc]
        exact hd.putT
      · rintro σ H14 ⟨b10, rfl, hd⟩
        have e0 : tl.take tvs.length = tl := List.take_of_length_le (by rw [htA.1]; exact Nat.le_refl _)
        rw [e0] at hd
        have sX := s12.trans hd.same
        have hgo : FlagR H14 g tl := ⟨insAll [] tl, .inl hd.dc, fun n => by rw [mem_insAll]; simp⟩
        have hA14 : AboveR H14 aa d.rows := AboveR.mono' sX hal halN
        have hE14 := hE11.mono sX
        have hso14 := hd.same _ _ (upd_same (H := H11) (a := so) (o := .lst (bs.map V.ref)))
        have hsoA14 := hsoA.mono fun _ _ => NmR.mono sX
        have hw14 := hw11.mono sX
        have hT14 := sX _ _ hT411
        have hl14 := sX _ _ hl411
        have hlA14 := hlA11.mono fun _ _ => NmR.mono sX
        refine ⟨_, rfl, 2, rfl, 14, rfl, sa, _, rfl, sqM sX hsa11, fun ca hca => ?_⟩
        have ecut : ∃ cells : List Int, cutV (cs.map V.int) (some 2) (some 14) = cells.map V.int := ⟨_, by unfold cutV; rw [← List.map_drop, ← List.map_take]⟩
        obtain ⟨cells, ecut⟩ := ecut
        rw [ecut]
        have s15 := sm_new (o := .lst (cells.map V.int)) hca
        refine ⟨ca, rfl, ⟨_, SqL.of upd_same⟩, for_list (K := K) (a := ca) (xs := cells.map V.int) (fun i σ H' => ∃ b10 b11 b12 : Option V, σ = [some (.ref sa), some (.ref x), b2, b3, some (.ref t), some (.ref aa), some (.ref ee), some (.ref ta), some (.ref so), some (.ref g), b10, b11, b12, none] ∧ Same (upd H14 ca (.lst (cells.map V.int))) H') ?_ ?_ ?_ ?_⟩
        · exact ⟨_, _, _, rfl, Same.refl _⟩
        · rintro i σ H' hi ⟨b10, b11, b12, rfl, hS⟩
          exact SqL.of (hS _ _ upd_same)
        · rintro i v σ H' hv ⟨b10, b11, b12, rfl, hS⟩
          rw [List.getElem?_map] at hv
          cases ec : cells[i]? with
          | none => rw [ec] at hv; cases hv
          | some c =>
            rw [ec] at hv
            cases hv
            refine ⟨_, rfl, Nat.zero_le _, fun l2 hl2 => ?_⟩
            have sL := sm_new (o := .lst []) hl2
            have sZ := (s15.trans hS).trans sL
            have sQ := hS.trans sL
            refine ⟨_, _, dp_names (ns := names d.rows) ⟨_, sZ _ _ hso14, hsoA14.mono fun _ _ => NmR.mono sZ⟩, dp_nil upd_same, shaped_names _, shaped_names [], _, rfl, ?_⟩
            rw [eqv_names]
            by_cases hn : names d.rows = []
            · exact iteE (by rw [decide_eq_true hn]; rfl) ⟨_, _, _, rfl, sQ⟩
            refine iteU (by rw [decide_eq_false hn]; rfl) ?_
            have hL0 : 0 < (names d.rows).length := List.length_pos_iff.mpr hn
            have hLb : (bs.map V.ref).length = (names d.rows).length := hsoA14.1
            have hm1 := Int.emod_nonneg (c / 8) (b := ((names d.rows).length : Int)) (by omega)
            have hm2 := Int.emod_lt_of_pos (c / 8) (b := ((names d.rows).length : Int)) (by omega)
            have hj : (c / 8 % ((names d.rows).length : Int)).toNat < (names d.rows).length := by omega
            obtain ⟨vn, e1, e2⟩ := hsoA14.get (List.getElem?_eq_getElem hj)
            have hnm : (names d.rows)[(c / 8 % ((names d.rows).length : Int)).toNat] ∈ names d.rows := List.getElem_mem hj
            generalize (names d.rows)[(c / 8 % ((names d.rows).length : Int)).toNat] = n at e2 hnm
            have eix : (c / 8).fmod (((bs.map V.ref).length : Nat) : Int) = (((c / 8 % ((names d.rows).length : Int)).toNat : Nat) : Int) := by
              rw [hLb, Int.fmod_eq_emod_of_nonneg _ (by omega)]
              omega
            obtain ⟨tn, rfl, htn⟩ := e2
            refine ⟨_, rfl, _, rfl, c, 8, rfl, rfl, ⟨by decide, by decide⟩, _, rfl, so, _, rfl, .inl (SqL.of (sZ _ _ hso14)), _, _, rfl, rfl, (by rw [hLb]; omega), so, _, _, .ref tn, rfl, rfl, SqL.of (sZ _ _ hso14), at_of eix e1, ?_⟩
            refine ⟨_, rfl, _, rfl, t, _, 1, _, rfl, rfl, SqT.of (sZ _ _ hT14), rfl, wla, _, rfl, .inl (SqL.of (sZ _ _ hl14)), fun l3 hl3 => ?_⟩
            have s3 := sm_new (o := .lst lvs) hl3
            have sW := sZ.trans s3
            have sQ3 := sQ.trans s3
            have hgone : n ∈ tl ↔ n ∈ goneD d d.ly := by
              rw [← htl, mem_told]
              exact ⟨fun h => h.2, fun h => ⟨hnm, h⟩⟩
            refine ⟨_, rfl, _, d, l3, tn, d.ly, n, rfl, hw14.mono sW, hsm, hwf, ⟨lvs, upd_same, hlA14.mono fun _ _ => NmR.mono sW⟩, fun n h => h, hlyl, sW _ _ htn, hnm, fun hg1 H20 s20 => ?_, fun hg1 H20 pa p last s20 f20 hp20 hW20 hl20 => ?_⟩
            · obtain ⟨o, hgt, hos⟩ := (hgo.mono (sW.trans s20)).get (n := n) ((sW.trans s20) _ _ htn)
              refine ⟨_, rfl, _, rfl, _, rfl, g, o, rfl, hgt, rfl, _, rfl, iteE ?_ ?_⟩
              · rw [hos, decide_eq_true (hgone.mpr hg1)]; decide
              · exact ⟨_, rfl, _, rfl, iteE (by decide) (iteF ⟨_, _, _, rfl, sQ3.trans s20⟩)⟩
            · obtain ⟨o, hgt, hos⟩ := (hgo.mono (sW.trans s20)).get (n := n) ((sW.trans s20) _ _ htn)
              refine ⟨_, rfl, _, rfl, _, rfl, g, o, rfl, hgt, rfl, _, rfl, iteE ?_ ?_⟩
              · rw [hos, decide_eq_false fun z => hg1 (hgone.mp z)]
                show (!decide (V.bl (decide (V.ref pa = V.non)) = V.bl false)) = false
                rw [ref_non]
                decide
              · refine ⟨_, rfl, _, rfl, iteU (by rw [ref_non]; rfl) ?_⟩
                have hpl : p.length ≤ 100000 := by
                  have h1 := hW20.ln
                  have h2 := names_lt (hW20.ok last (List.mem_of_getElem? hW20.ls)).1
                  have h3 := hsm.rw
                  omega
                exact ⟨_, rfl, _, rfl, _, rfl, _, rfl, _, rfl, pa, tn, aa, ee, g, d, tl, p, n, last, rfl, hp20, hpl, (sW.trans s20) _ _ htn, hA14.mono (sW.trans s20), hE14.mono (sW.trans s20), hgo.mono (sW.trans s20), hwalk hW20 hl20, fun H21 s21 => ⟨true, rfl, iteE rfl ⟨_, _, _, rfl, (sQ3.trans s20).trans s21⟩⟩⟩
        · rintro σ H' ⟨b10, b11, b12, rfl, hS⟩
          exact k H'

/-! ### the law -/
def spLaw (K : PySem.W.Frag) : Sp := fun vs H Q _ => ∃ (sa : Addr) (cs : List Int), vs = [.ref sa] ∧ SqL K H sa (cs.map V.int) ∧ cs.length ≤ 10000 ∧ ∀ H', Q (.bl true) H'
theorem sc_law : FnScope ["_law_script"] ["_law_script"] (defScope s_law) := ⟨rfl, rfl, rfl, by decide +kernel, rfl, by decide +kernel, by decide +kernel⟩
theorem law_fn (Z : Zt K mg) {fd : FuncData} (F : FunD K d_law.name d_law.qual d_law.params d_law.body d_law.scope (He.DefD.dvs K d_law) (He.DefD.kws K d_law) (He.fAd K d_law.at_) fd) : FnOk P w K mg base CX0 6 (He.ga K "law") fd ["_law_script"] (spLaw K) := by
  have c_law_asked_so := ok_law_asked_so (P := P) (w := w) (base := base) Z
  have c_law_wide := ok_law_wide (P := P) (w := w) (base := base) Z
  refine F.ok sc_law (fun vs H Q E h => ?_) (fun cdv A outer s H vs Q E hr h => ?_)
  · obtain ⟨sa, cs, rfl, _⟩ := h
    rfl
  · obtain ⟨sa, cs, rfl, hsa, hl, k⟩ := h
    refine ⟨_, PSs.nox (pss_one (ps_ret (pe_cal c_law_asked_so (hr.mono (by decide)) (by rfl) (pa_cons (pe_cal c_law_wide (hr.mono (by decide)) (by rfl) (pa_cons (pv 0) pa_nil)) pa_nil)))), ?_⟩
    exact ⟨_, rfl, sa, cs, rfl, hsa, hl, fun H1 a1 cs1 s1 h1 => ⟨a1, cs1, rfl, h1, k⟩⟩
theorem law_end {h : Heap} {fa : Addr} (X : K.In h) (G : h.Ns mainGlobals mg) (c : Says K) (hfa : mg "law" = some (.ref fa)) :
    ∃ fd : FuncData, (∀ (s : Shared) (u : Value), BindsTo s fd ⟨[u], []⟩ [("_law_script", u)]) ∧ ∀ base : Heap, K.In base → base.Ns mainGlobals mg → FnOk P w K mg base CX0 6 fa fd ["_law_script"] (spLaw K) := by
  have Z := z_of X G c
  have e := hfa.symm.trans Z.gl_law
  cases e
  obtain ⟨fd, F⟩ := Z.du_law
  have b := FunD.bindsA (ps := ["_law_script"]) F fun _ _ _ _ _ _ us hl => match us, hl with | [_], _ => rfl
  exact ⟨fd, fun s u => b s [u] rfl, fun base _ _ => law_fn Z F⟩
end K34
set_option autoImplicit true
set_option Elab.async false
set_option linter.all false
set_option maxRecDepth 100000
set_option maxHeartbeats 0
open PySem PySem.W PySem.Calls PyProof.Rows
theorem PySem.Challenge.cw_stitchroom_k34_whole_held_holds : PySem.Challenge.rw_stitchroom_k34_whole_held.Holds := by
  w_on; o_law
  refine HandSHeadRun.head_any (r := OpenLaw.row PySem.Challenge.rw_stitchroom_k34_whole_held) (q := view (OpenLaw.row PySem.Challenge.rw_stitchroom_k34_whole_held).prog [55]) (H := K34.hk) (ob := K34.ob) (M := 7000) (loose := K34.nmAll) (d := HandSHeadRun.topDef (OpenLaw.row PySem.Challenge.rw_stitchroom_k34_whole_held).prog 55) (kwd := []) K34.ob_eq
    (by kernel_rfl) (fun s => by kernel_rfl) K34.run (by kernel_rfl) (by kernel_rfl) (by kernel_rfl) (by rfl) (by first | assumption | decide +kernel) (by decide +kernel) ⟨rfl, rfl, rfl, rfl, rfl, by decide +kernel⟩ ?hw ?hc
  case hw => w_witness2
  case hc =>
    refine L2.walk_ofE (l := PySem.Challenge.rw_stitchroom_k34_whole_held) (n := 63) (k := 6) (x := "_law_script") (CX := L2.CX0) rfl (by decide) (by kernel_rfl) ⟨rfl, by decide, by decide⟩ ?F (fun _ _ _ _ z => z)
    intro w mg fa h Y G hmg0
    obtain ⟨K, KX, c⟩ := Y
    have hmg : mg ("law" : PySem.Str) = some (.ref fa) := by
      have e : (HandSHeadRun.topDef (OpenLaw.row PySem.Challenge.rw_stitchroom_k34_whole_held).prog 55).name = ("law" : PySem.Str) := by kernel_rfl
      rw [← e]
      exact hmg0
    obtain ⟨fd, hb, hF⟩ := K34.law_end (P := (PySem.Challenge.rw_stitchroom_k34_whole_held).prog) (w := w) KX G c hmg
    exact ⟨K, fd, K34.spLaw K, KX, hb, fun H a ns hl _ hS => ⟨a, ns, rfl, hS, Nat.le_trans hl (by decide), fun _ => rfl⟩, hF⟩
set_option autoImplicit true

import PyProof.Rows.All
import Wide.All
import OpenK.AllK
import Wide.FinOn
import HandS.ForMost
import HandS.Exc
import HandS.Lambda
import HandS.IsInst
import HandS.DictComp
import HandS.Zip
import HandS.TupAny
import HandS.Defaults
import HandS.Words
import HandS.Style
import HandS.HeadHook3
import PySem.Challenge.RW_asmany_k23_whole_what_more_of_a_kind_giv
import HandS.Walk
import HandS.ListEq
import HandS.AnyAll
import KE.KExcSuper
import KE.KSuper
import KE.KExcMake
import HandS.ExcInit
import HandS.ExcSuper
import PyProof.EqKinds
import PyProof.Rows.StrMeet
import PyProof.Rows.TmSorted
import HandS.Strs
import HandS.SetFor
import HandS.SetTxt0
import HandS.TupSets
import KE.GoesMore
import PyProof.AutoSeq1
import KE.SortData
import KE.SortKeyHeap
import KE.DataMinMax
import HandS.ExcField
import HandS.TryMany
import HandS.Head2
import HandS.HeadHook4
import HandS.EndTab
import KE.KStateDown
import HandS.Head0
import HandS.Head1
import HandS.HeadEnd
import HandS.HeadWalk
import HandS.FStrTup
import PyProof.ReprRoads
import PyProof.CallFns
import HandS.Text
import PyProof.StrBlock2
import PyProof.StrBlockL
import HandS.Dict
import HandS.Conv
import KE.KTupSum
import KE.KRevSl
import PyProof.Rows.StrCase
set_option Elab.async false
set_option linter.all false
set_option maxRecDepth 100000
set_option autoImplicit false
/-! M1: formulas as plain data: names, numbers, ways, what a way takes, that a way fits. -/
namespace K23
inductive Fm (α : Type) where
  | kind (s : α)
  | many (n : Nat) (p : Fm α)
  | node (b : Bool) (ps : List (Fm α))

section
variable {α : Type}
theorem Fm.ind {P : Fm α → Prop} (hk : ∀ s, P (.kind s)) (hm : ∀ n p, P p → P (.many n p)) (hn : ∀ b ps, (∀ p ∈ ps, P p) → P (.node b ps)) : ∀ f, P f := by
  intro f
  refine Fm.rec (motive_1 := P) (motive_2 := fun ps => ∀ p ∈ ps, P p) hk hm (fun b ps h => hn b ps h) (fun p h => by cases h) (fun p r h1 h2 q hq => ?_) f
  rcases List.mem_cons.mp hq with e | hq
  · rw [e]; exact h1
  · exact h2 q hq

mutual
def Fm.names : Fm α → List α
  | .kind s => [s]
  | .many _ p => p.names
  | .node _ ps => namesL ps
def namesL : List (Fm α) → List α
  | [] => []
  | p :: r => p.names ++ namesL r
end
theorem namesL_eq (ps : List (Fm α)) : namesL ps = ps.flatMap Fm.names := by
  induction ps with
  | nil => rfl
  | cons p r ih => rw [namesL, ih, List.flatMap_cons]
theorem mem_namesL {ps : List (Fm α)} {s : α} : s ∈ namesL ps ↔ ∃ p ∈ ps, s ∈ p.names := by
  rw [namesL_eq, List.mem_flatMap]

/-- well made: "many" of two or more, joints of two or more parts, the numbers along a road multiply to at most B -/
def Wf : Nat → Fm α → Prop
  | B, .kind _ => 1 ≤ B
  | B, .many n p => 2 ≤ n ∧ n ≤ B ∧ Wf (B / n) p
  | B, .node _ ps => 2 ≤ ps.length ∧ ∀ p ∈ ps, Wf B p
termination_by _ f => sizeOf f
theorem Wf.kind {B : Nat} {s : α} : Wf B (.kind s) ↔ 1 ≤ B := by rw [Wf]
theorem Wf.many {B n : Nat} {p : Fm α} : Wf B (.many n p) ↔ 2 ≤ n ∧ n ≤ B ∧ Wf (B / n) p := by rw [Wf]
theorem Wf.node {B : Nat} {b : Bool} {ps : List (Fm α)} : Wf B (.node b ps) ↔ 2 ≤ ps.length ∧ ∀ p ∈ ps, Wf B p := by rw [Wf]

theorem Wf.pos {B : Nat} {f : Fm α} : Wf B f → 1 ≤ B := by
  induction f using Fm.ind generalizing B with
  | hk s => rw [Wf.kind]; exact id
  | hm n p ih => rw [Wf.many]; intro h; omega
  | hn b ps ih =>
    rw [Wf.node]
    intro ⟨h1, h2⟩
    match ps, h1, h2, ih with
    | p :: r, _, h2, ih => exact ih p (List.mem_cons_self) (h2 p List.mem_cons_self)

/-! ### least numbers, sums -/
def lmin : List Int → Int
  | [] => 0
  | [x] => x
  | x :: y :: r => min x (lmin (y :: r))
theorem lmin_cons {x : Int} {r : List Int} (h : r ≠ []) : lmin (x :: r) = min x (lmin r) := by
  cases r with
  | nil => exact absurd rfl h
  | cons y r => rfl
theorem lmin_mem : ∀ {l : List Int}, l ≠ [] → lmin l ∈ l
  | [], h => absurd rfl h
  | [x], _ => by simp [lmin]
  | x :: y :: r, _ => by
    have ih := lmin_mem (l := y :: r) (by simp)
    rw [lmin_cons (by simp)]
    rcases Int.le_total x (lmin (y :: r)) with q | q
    · rw [Int.min_eq_left q]; exact List.mem_cons_self
    · rw [Int.min_eq_right q]; exact List.mem_cons_of_mem _ ih
theorem lmin_le : ∀ {l : List Int} {k : Int}, k ∈ l → lmin l ≤ k
  | [], _, h => by cases h
  | [x], k, h => by
    have : k = x := by simpa using h
    rw [this]; exact Int.le_refl _
  | x :: y :: r, k, h => by
    rw [lmin_cons (by simp)]
    rcases List.mem_cons.mp h with e | h
    · rw [e]; exact Int.min_le_left _ _
    · exact Int.le_trans (Int.min_le_right _ _) (lmin_le h)
theorem lmin_unique {l : List Int} {m : Int} (h : m ∈ l) (hl : ∀ k ∈ l, m ≤ k) : m = lmin l := by
  have hne : l ≠ [] := by intro e; rw [e] at h; cases h
  exact Int.le_antisymm (hl _ (lmin_mem hne)) (lmin_le h)
theorem le_lmin {l : List Int} {m : Int} (hne : l ≠ []) : m ≤ lmin l ↔ ∀ k ∈ l, m ≤ k :=
  ⟨fun h k hk => Int.le_trans h (lmin_le hk), fun h => h _ (lmin_mem hne)⟩
theorem lmin_perm {l l' : List Int} (h : l.Perm l') : lmin l = lmin l' := by
  by_cases hne : l = []
  · rw [hne] at h; rw [hne, List.nil_perm.mp h]
  · exact lmin_unique (h.mem_iff.mp (lmin_mem hne)) fun k hk => lmin_le (h.mem_iff.mpr hk)
theorem sum_perm {l l' : List Int} (h : l.Perm l') : l.sum = l'.sum := by
  induction h with
  | nil => rfl
  | cons x _ ih => rw [List.sum_cons, List.sum_cons, ih]
  | swap x y l => simp only [List.sum_cons]; omega
  | trans _ _ a b => exact a.trans b
theorem sum_nonneg : ∀ {l : List Int}, (∀ k ∈ l, 0 ≤ k) → 0 ≤ l.sum
  | [], _ => Int.le_refl 0
  | x :: r, h => by
    rw [List.sum_cons]
    have a := h x List.mem_cons_self
    have b := sum_nonneg fun k hk => h k (List.mem_cons_of_mem _ hk)
    omega

/-! ### the number of pieces -/
mutual
def num (ρ : α → Int) : Fm α → Int
  | .kind s => ρ s
  | .many n p => num ρ p / (n : Int)
  | .node b ps => if b then lmin (numL ρ ps) else (numL ρ ps).sum
def numL (ρ : α → Int) : List (Fm α) → List Int
  | [] => []
  | p :: r => num ρ p :: numL ρ r
end
theorem numL_eq (ρ : α → Int) (ps : List (Fm α)) : numL ρ ps = ps.map (num ρ) := by
  induction ps with
  | nil => rfl
  | cons p r ih => rw [numL, ih, List.map_cons]
theorem num_kind (ρ : α → Int) (s : α) : num ρ (.kind s) = ρ s := by rw [num]
theorem num_many (ρ : α → Int) (n : Nat) (p : Fm α) : num ρ (.many n p) = num ρ p / (n : Int) := by rw [num]
theorem num_and (ρ : α → Int) (ps : List (Fm α)) : num ρ (.node true ps) = lmin (ps.map (num ρ)) := by rw [num, numL_eq]; rfl
theorem num_or (ρ : α → Int) (ps : List (Fm α)) : num ρ (.node false ps) = (ps.map (num ρ)).sum := by rw [num, numL_eq]; rfl

theorem num_congr {ρ ρ' : α → Int} {f : Fm α} (h : ∀ s ∈ f.names, ρ s = ρ' s) : num ρ f = num ρ' f := by
  induction f using Fm.ind with
  | hk s => rw [num_kind, num_kind]; exact h s (by simp [Fm.names])
  | hm n p ih => rw [num_many, num_many, ih (by simpa [Fm.names] using h)]
  | hn b ps ih =>
    have e : ps.map (num ρ) = ps.map (num ρ') := List.map_congr_left fun p hp => ih p hp fun s hs => h s (by rw [Fm.names, mem_namesL]; exact ⟨p, hp, hs⟩)
    cases b with
    | true => rw [num_and, num_and, e]
    | false => rw [num_or, num_or, e]
theorem num_nonneg {B : Nat} {ρ : α → Int} {f : Fm α} (w : Wf B f) (h : ∀ s ∈ f.names, 0 ≤ ρ s) : 0 ≤ num ρ f := by
  induction f using Fm.ind generalizing B with
  | hk s => rw [num_kind]; exact h s (by simp [Fm.names])
  | hm n p ih =>
    rw [Wf.many] at w
    rw [num_many]
    exact Int.ediv_nonneg (ih w.2.2 (by simpa [Fm.names] using h)) (Int.natCast_nonneg n)
  | hn b ps ih =>
    rw [Wf.node] at w
    have q : ∀ k ∈ ps.map (num ρ), 0 ≤ k := fun k hk => by
      obtain ⟨p, hp, e⟩ := List.mem_map.mp hk
      rw [← e]
      exact ih p hp (w.2 p hp) fun s hs => h s (by rw [Fm.names, mem_namesL]; exact ⟨p, hp, hs⟩)
    cases b with
    | true =>
      rw [num_and]
      refine q _ (lmin_mem ?_)
      intro e
      have e2 : ps = [] := by simpa using e
      rw [e2] at w
      simp at w
    | false => rw [num_or]; exact sum_nonneg q
end
end K23
set_option autoImplicit false
/-! M2: numbers with always enough of some kinds; ways; what a way takes; that a way fits. -/
namespace K23
section
variable {α : Type}
/-! ### least and sum where none is endless -/
def oMin : List (Option Int) → Option Int
  | [] => none
  | none :: r => oMin r
  | some a :: r => match oMin r with
    | none => some a
    | some b => some (min a b)
def oSum : List (Option Int) → Option Int
  | [] => some 0
  | none :: _ => none
  | some a :: r => match oSum r with
    | none => none
    | some b => some (a + b)
theorem oMin_none : ∀ {l : List (Option Int)}, oMin l = none ↔ ∀ x ∈ l, x = none
  | [] => ⟨fun _ x hx => by (cases hx), fun _ => rfl⟩
  | none :: r => by
    rw [oMin, oMin_none]
    constructor
    · intro h x hx
      rcases List.mem_cons.mp hx with e | hx
      · exact e
      · exact h x hx
    · exact fun h x hx => h x (List.mem_cons_of_mem _ hx)
  | some a :: r => by
    rw [oMin]
    constructor
    · intro h
      split at h <;> cases h
    · intro h
      have := h (some a) List.mem_cons_self
      cases this
theorem oMin_some : ∀ {l : List (Option Int)} {m : Int}, oMin l = some m → some m ∈ l ∧ ∀ k, some k ∈ l → m ≤ k
  | [], m, h => by cases h
  | none :: r, m, h => by
    rw [oMin] at h
    obtain ⟨h1, h2⟩ := oMin_some h
    refine ⟨List.mem_cons_of_mem _ h1, fun k hk => ?_⟩
    rcases List.mem_cons.mp hk with e | hk
    · cases e
    · exact h2 k hk
  | some a :: r, m, h => by
    rw [oMin] at h
    cases q : oMin r with
    | none =>
      rw [q] at h
      cases h
      refine ⟨List.mem_cons_self, fun k hk => ?_⟩
      rcases List.mem_cons.mp hk with e | hk
      · cases e; exact Int.le_refl _
      · have := oMin_none.mp q _ hk
        cases this
    | some b =>
      rw [q] at h
      cases h
      obtain ⟨h1, h2⟩ := oMin_some q
      refine ⟨?_, fun k hk => ?_⟩
      · rcases Int.le_total a b with t | t
        · rw [Int.min_eq_left t]; exact List.mem_cons_self
        · rw [Int.min_eq_right t]; exact List.mem_cons_of_mem _ h1
      · rcases List.mem_cons.mp hk with e | hk
        · cases e; exact Int.min_le_left _ _
        · exact Int.le_trans (Int.min_le_right _ _) (h2 k hk)
theorem oMin_is {l : List (Option Int)} {m : Int} (h1 : some m ∈ l) (h2 : ∀ k, some k ∈ l → m ≤ k) : oMin l = some m := by
  cases q : oMin l with
  | none => have := oMin_none.mp q _ h1; cases this
  | some b =>
    obtain ⟨a1, a2⟩ := oMin_some q
    rw [Int.le_antisymm (a2 _ h1) (h2 _ a1)]
theorem oSum_none : ∀ {l : List (Option Int)}, oSum l = none ↔ none ∈ l
  | [] => ⟨fun h => by (cases h), fun h => by (cases h)⟩
  | none :: r => ⟨fun _ => List.mem_cons_self, fun _ => rfl⟩
  | some a :: r => by
    rw [oSum]
    constructor
    · intro h
      cases q : oSum r with
      | none => exact List.mem_cons_of_mem _ (oSum_none.mp q)
      | some b => rw [q] at h; cases h
    · intro h
      rcases List.mem_cons.mp h with e | h
      · cases e
      · rw [oSum_none.mpr h]
theorem oSum_cons {a : Int} {r : List (Option Int)} : oSum (some a :: r) = (oSum r).map (a + ·) := by
  rw [oSum]
  cases oSum r <;> rfl
theorem oSum_map : ∀ (l : List Int), oSum (l.map some) = some l.sum
  | [] => rfl
  | a :: r => by rw [List.map_cons, oSum_cons, oSum_map r, List.sum_cons]; rfl
theorem oMin_map {l : List Int} (h : l ≠ []) : oMin (l.map some) = some (lmin l) :=
  oMin_is (List.mem_map.mpr ⟨_, lmin_mem h, rfl⟩) fun k hk => by
    obtain ⟨j, hj, e⟩ := List.mem_map.mp hk
    cases e
    exact lmin_le hj

/-! ### always enough of some kinds -/
variable [DecidableEq α]
mutual
def endless (ρ : α → Int) (L : List α) : Fm α → Option Int
  | .kind s => if s ∈ L then none else some (ρ s)
  | .many n p => (endless ρ L p).map (· / (n : Int))
  | .node b ps => if b then oMin (endlessL ρ L ps) else oSum (endlessL ρ L ps)
def endlessL (ρ : α → Int) (L : List α) : List (Fm α) → List (Option Int)
  | [] => []
  | p :: r => endless ρ L p :: endlessL ρ L r
end
theorem endlessL_eq (ρ : α → Int) (L : List α) (ps : List (Fm α)) : endlessL ρ L ps = ps.map (endless ρ L) := by
  induction ps with
  | nil => rfl
  | cons p r ih => rw [endlessL, ih, List.map_cons]
theorem endless_kind (ρ : α → Int) (L : List α) (s : α) : endless ρ L (.kind s) = if s ∈ L then none else some (ρ s) := by rw [endless]
theorem endless_many (ρ : α → Int) (L : List α) (n : Nat) (p : Fm α) : endless ρ L (.many n p) = (endless ρ L p).map (· / (n : Int)) := by rw [endless]
theorem endless_and (ρ : α → Int) (L : List α) (ps : List (Fm α)) : endless ρ L (.node true ps) = oMin (ps.map (endless ρ L)) := by rw [endless, endlessL_eq]; rfl
theorem endless_or (ρ : α → Int) (L : List α) (ps : List (Fm α)) : endless ρ L (.node false ps) = oSum (ps.map (endless ρ L)) := by rw [endless, endlessL_eq]; rfl
theorem mem_part {b : Bool} {ps : List (Fm α)} {p : Fm α} {s : α} (hp : p ∈ ps) (hs : s ∈ p.names) : s ∈ (Fm.node b ps).names := by
  rw [Fm.names, mem_namesL]; exact ⟨p, hp, hs⟩
theorem endless_congr {ρ ρ' : α → Int} {L : List α} {f : Fm α} (h : ∀ s ∈ f.names, s ∉ L → ρ s = ρ' s) : endless ρ L f = endless ρ' L f := by
  induction f using Fm.ind with
  | hk s =>
    rw [endless_kind, endless_kind]
    by_cases q : s ∈ L
    · rw [if_pos q, if_pos q]
    · rw [if_neg q, if_neg q, h s (by simp [Fm.names]) q]
  | hm n p ih => rw [endless_many, endless_many, ih (by simpa [Fm.names] using h)]
  | hn b ps ih =>
    have e : ps.map (endless ρ L) = ps.map (endless ρ' L) := List.map_congr_left fun p hp => ih p hp fun s hs => h s (mem_part hp hs)
    cases b with
    | true => rw [endless_and, endless_and, e]
    | false => rw [endless_or, endless_or, e]
theorem endless_nil {B : Nat} {ρ : α → Int} {f : Fm α} (w : Wf B f) : endless ρ [] f = some (num ρ f) := by
  induction f using Fm.ind generalizing B with
  | hk s => rw [endless_kind, num_kind]; simp
  | hm n p ih => rw [Wf.many] at w; rw [endless_many, num_many, ih w.2.2]; rfl
  | hn b ps ih =>
    rw [Wf.node] at w
    have e : ps.map (endless ρ []) = (ps.map (num ρ)).map some := by
      rw [List.map_map]
      exact List.map_congr_left fun p hp => ih p hp (w.2 p hp)
    have ne : ps.map (num ρ) ≠ [] := by
      intro e
      have e2 : ps = [] := by simpa using e
      rw [e2] at w
      simp at w
    cases b with
    | true => rw [endless_and, num_and, e, oMin_map ne]
    | false => rw [endless_or, num_or, e, oSum_map]
/-- whether there is an end does not hang on the amounts -/
theorem endless_none (ρ ρ' : α → Int) {L : List α} {f : Fm α} : endless ρ L f = none → endless ρ' L f = none := by
  induction f using Fm.ind with
  | hk s =>
    rw [endless_kind, endless_kind]
    by_cases q : s ∈ L
    · rw [if_pos q, if_pos q]; exact id
    · rw [if_neg q, if_neg q]; intro h; cases h
  | hm n p ih =>
    rw [endless_many, endless_many]
    intro h
    rw [ih (by simpa using h)]
    rfl
  | hn b ps ih =>
    cases b with
    | true =>
      rw [endless_and, endless_and, oMin_none, oMin_none]
      intro h x hx
      obtain ⟨p, hp, e⟩ := List.mem_map.mp hx
      rw [← e]
      exact ih p hp (h _ (List.mem_map.mpr ⟨p, hp, rfl⟩))
    | false =>
      rw [endless_or, endless_or, oSum_none, oSum_none]
      intro h
      obtain ⟨p, hp, e⟩ := List.mem_map.mp h
      exact List.mem_map.mpr ⟨p, hp, ih p hp e⟩
theorem endless_nonneg {ρ : α → Int} {L : List α} {f : Fm α} {e : Int} (h : ∀ s ∈ f.names, s ∉ L → 0 ≤ ρ s) (he : endless ρ L f = some e) : 0 ≤ e := by
  induction f using Fm.ind generalizing e with
  | hk s =>
    rw [endless_kind] at he
    by_cases q : s ∈ L
    · rw [if_pos q] at he; cases he
    · rw [if_neg q] at he; cases he; exact h s (by simp [Fm.names]) q
  | hm n p ih =>
    rw [endless_many] at he
    cases q : endless ρ L p with
    | none => rw [q] at he; cases he
    | some x =>
      rw [q] at he
      cases he
      exact Int.ediv_nonneg (ih (by simpa [Fm.names] using h) q) (Int.natCast_nonneg n)
  | hn b ps ih =>
    have ih' : ∀ x ∈ ps.map (endless ρ L), ∀ k, x = some k → 0 ≤ k := fun x hx k hk => by
      obtain ⟨p, hp, e⟩ := List.mem_map.mp hx
      exact ih p hp (fun s hs => h s (mem_part hp hs)) (e.trans hk)
    cases b with
    | true =>
      rw [endless_and] at he
      exact ih' _ (oMin_some he).1 _ rfl
    | false =>
      rw [endless_or] at he
      revert ih' e
      generalize ps.map (endless ρ L) = l
      intro e ih' he
      induction l generalizing e with
      | nil => cases he; exact Int.le_refl 0
      | cons x r ihr =>
        cases x with
        | none => cases he
        | some a =>
          rw [oSum_cons] at he
          cases q : oSum r with
          | none => rw [q] at he; cases he
          | some b =>
            rw [q] at he
            cases he
            have h1 := ih' _ List.mem_cons_self a rfl
            have h2 := ihr (fun x hx => ih' x (List.mem_cons_of_mem _ hx)) q
            show 0 ≤ a + b
            omega

/-! ### ways -/
def sumF : List (α → Int) → α → Int
  | [], _ => 0
  | w :: r, s => w s + sumF r s
mutual
def Way : Fm α → (α → Int) → Prop
  | .kind s, w => w = fun x => if x = s then 1 else 0
  | .many n p, w => ∃ ws : List (α → Int), ws.length = n ∧ (∀ v ∈ ws, Way p v) ∧ w = sumF ws
  | .node b ps, w => if b then WayAll ps w else WayAny ps w
def WayAll : List (Fm α) → (α → Int) → Prop
  | [], w => w = fun _ => 0
  | p :: r, w => ∃ u v, Way p u ∧ WayAll r v ∧ w = fun s => u s + v s
def WayAny : List (Fm α) → (α → Int) → Prop
  | [], _ => False
  | p :: r, w => Way p w ∨ WayAny r w
end
theorem way_kind {s : α} {w : α → Int} : Way (.kind s) w ↔ w = fun x => if x = s then 1 else 0 := by rw [Way]
theorem way_many {n : Nat} {p : Fm α} {w : α → Int} : Way (.many n p) w ↔ ∃ ws : List (α → Int), ws.length = n ∧ (∀ v ∈ ws, Way p v) ∧ w = sumF ws := by rw [Way]
theorem way_and {ps : List (Fm α)} {w : α → Int} : Way (.node true ps) w ↔ WayAll ps w := by rw [Way]; rfl
theorem way_or {ps : List (Fm α)} {w : α → Int} : Way (.node false ps) w ↔ WayAny ps w := by rw [Way]; rfl
theorem wayAny_iff {ps : List (Fm α)} {w : α → Int} : WayAny ps w ↔ ∃ p ∈ ps, Way p w := by
  induction ps with
  | nil => rw [WayAny]; exact ⟨False.elim, fun ⟨p, hp, _⟩ => by (cases hp)⟩
  | cons p r ih =>
    rw [WayAny, ih]
    constructor
    · rintro (h | ⟨q, hq, h⟩)
      · exact ⟨p, List.mem_cons_self, h⟩
      · exact ⟨q, List.mem_cons_of_mem _ hq, h⟩
    · rintro ⟨q, hq, h⟩
      rcases List.mem_cons.mp hq with e | hq
      · rw [e] at h; exact .inl h
      · exact .inr ⟨q, hq, h⟩
theorem sumF_zero {ws : List (α → Int)} {s : α} (h : ∀ v ∈ ws, v s = 0) : sumF ws s = 0 := by
  induction ws with
  | nil => rfl
  | cons v r ih => rw [sumF, h v List.mem_cons_self, ih fun u hu => h u (List.mem_cons_of_mem _ hu)]; rfl
theorem sumF_nonneg {ws : List (α → Int)} {s : α} (h : ∀ v ∈ ws, 0 ≤ v s) : 0 ≤ sumF ws s := by
  induction ws with
  | nil => exact Int.le_refl 0
  | cons v r ih =>
    have a := h v List.mem_cons_self
    have b := ih fun u hu => h u (List.mem_cons_of_mem _ hu)
    rw [sumF]
    omega
/-- a way has nothing of other kinds, and no amount below 0 -/
theorem way_out {f : Fm α} {w : α → Int} (h : Way f w) : ∀ s, s ∉ f.names → w s = 0 := by
  induction f using Fm.ind generalizing w with
  | hk s =>
    rw [way_kind] at h
    intro x hx
    rw [h]
    have : x ≠ s := by simpa [Fm.names] using hx
    exact if_neg this
  | hm n p ih =>
    rw [way_many] at h
    obtain ⟨ws, _, h2, rfl⟩ := h
    intro s hs
    exact sumF_zero fun v hv => ih (h2 v hv) s (by simpa [Fm.names] using hs)
  | hn b ps ih =>
    intro s hs
    rw [Fm.names, mem_namesL] at hs
    cases b with
    | true =>
      rw [way_and] at h
      have hs' : ∀ p ∈ ps, s ∉ p.names := fun p hp z => hs ⟨p, hp, z⟩
      clear hs
      induction ps generalizing w with
      | nil => rw [WayAll] at h; rw [h]
      | cons p r ihr =>
        rw [WayAll] at h
        obtain ⟨u, v, h1, h2, rfl⟩ := h
        have a := ih p List.mem_cons_self h1 s (hs' p List.mem_cons_self)
        have b := ihr (fun q hq => ih q (List.mem_cons_of_mem _ hq)) h2 (fun q hq => hs' q (List.mem_cons_of_mem _ hq))
        show u s + v s = 0
        omega
    | false =>
      rw [way_or, wayAny_iff] at h
      obtain ⟨p, hp, h⟩ := h
      exact ih p hp h s fun z => hs ⟨p, hp, z⟩
theorem way_nonneg {f : Fm α} {w : α → Int} (h : Way f w) (s : α) : 0 ≤ w s := by
  induction f using Fm.ind generalizing w with
  | hk x =>
    rw [way_kind] at h
    rw [h]
    show 0 ≤ (if s = x then 1 else 0 : Int)
    split <;> decide
  | hm n p ih =>
    rw [way_many] at h
    obtain ⟨ws, _, h2, rfl⟩ := h
    exact sumF_nonneg fun v hv => ih (h2 v hv)
  | hn b ps ih =>
    cases b with
    | true =>
      rw [way_and] at h
      induction ps generalizing w with
      | nil => rw [WayAll] at h; rw [h]; exact Int.le_refl 0
      | cons p r ihr =>
        rw [WayAll] at h
        obtain ⟨u, v, h1, h2, rfl⟩ := h
        have a := ih p List.mem_cons_self h1
        have b := ihr (fun q hq => ih q (List.mem_cons_of_mem _ hq)) h2
        show 0 ≤ u s + v s
        omega
    | false =>
      rw [way_or, wayAny_iff] at h
      obtain ⟨p, hp, h⟩ := h
      exact ih p hp h
theorem nodup_parts {p : Fm α} {r : List (Fm α)} (h : (namesL (p :: r)).Nodup) : p.names.Nodup ∧ (namesL r).Nodup ∧ ∀ s, s ∈ p.names → s ∉ namesL r := by
  rw [namesL, List.nodup_append] at h
  exact ⟨h.1, h.2.1, fun s hs hr => h.2.2 s hs s hr rfl⟩
theorem wayAll_out {ps : List (Fm α)} {w : α → Int} (h : WayAll ps w) {s : α} (hs : s ∉ namesL ps) : w s = 0 := way_out (way_and.mpr h) s (by rw [Fm.names]; exact hs)

/-! ### each way that is taken lowers the number by one -/
theorem oMin_shift : ∀ (l : List (Option Int)), oMin (l.map fun x => x.map (· - 1)) = (oMin l).map (· - 1)
  | [] => rfl
  | none :: r => by rw [List.map_cons]; exact oMin_shift r
  | some a :: r => by
    rw [List.map_cons]
    show oMin (some (a - 1) :: _) = _
    rw [oMin, oMin, oMin_shift r]
    cases oMin r with
    | none => rfl
    | some b => show some (min (a - 1) (b - 1)) = some (min a b - 1); congr 1; omega
theorem fall {f : Fm α} {w : α → Int} {ρ : α → Int} {L : List α} {B : Nat} (wf : Wf B f) (nd : f.names.Nodup) (h : Way f w) : endless (fun s => ρ s - w s) L f = (endless ρ L f).map (· - 1) := by
  induction f using Fm.ind generalizing w ρ B with
  | hk s =>
    rw [way_kind] at h
    rw [endless_kind, endless_kind, h]
    by_cases q : s ∈ L
    · rw [if_pos q, if_pos q]; rfl
    · rw [if_neg q, if_neg q]; simp
  | hm n p ih =>
    rw [Wf.many] at wf
    rw [way_many] at h
    obtain ⟨ws, hl, h2, rfl⟩ := h
    have nd' : p.names.Nodup := by simpa [Fm.names] using nd
    have key : ∀ (ws : List (α → Int)) (ρ : α → Int), (∀ v ∈ ws, Way p v) → endless (fun s => ρ s - sumF ws s) L p = (endless ρ L p).map (· - (ws.length : Int)) := by
      intro ws
      induction ws with
      | nil =>
        intro ρ _
        have e : (fun s => ρ s - sumF [] s) = ρ := by funext s; simp [sumF]
        rw [e]
        cases endless ρ L p <;> simp
      | cons v r ihr =>
        intro ρ hv
        have e : (fun s => ρ s - sumF (v :: r) s) = fun s => (fun s => ρ s - v s) s - sumF r s := by funext s; simp [sumF]; omega
        rw [e, ihr _ fun u hu => hv u (List.mem_cons_of_mem _ hu), ih wf.2.2 nd' (hv v List.mem_cons_self)]
        cases endless ρ L p with
        | none => rfl
        | some x => simp; omega
    rw [endless_many, endless_many, key ws ρ h2, hl]
    cases endless ρ L p with
    | none => rfl
    | some x =>
      show some ((x - (n : Int)) / (n : Int)) = some (x / (n : Int) - 1)
      congr 1
      have hn : (n : Int) ≠ 0 := by omega
      have : x - (n : Int) = x + (n : Int) * (-1) := by omega
      rw [this, Int.add_mul_ediv_left _ _ hn]
      omega
  | hn b ps ih =>
    rw [Wf.node] at wf
    have nd' : (namesL ps).Nodup := by simpa [Fm.names] using nd
    cases b with
    | true =>
      rw [way_and] at h
      rw [endless_and, endless_and, ← oMin_shift, List.map_map]
      have key : ∀ (qs : List (Fm α)) (w : α → Int), (∀ p ∈ qs, p ∈ ps) → (namesL qs).Nodup → WayAll qs w → qs.map (endless (fun s => ρ s - w s) L) = qs.map ((fun x => x.map (· - 1)) ∘ endless ρ L) := by
        intro qs
        induction qs with
        | nil => intro _ _ _ _; rfl
        | cons p r ihr =>
          intro w hsub hnd hw
          rw [WayAll] at hw
          obtain ⟨u, v, h1, h2, rfl⟩ := hw
          obtain ⟨n1, n2, n3⟩ := nodup_parts hnd
          rw [List.map_cons, List.map_cons]
          congr 1
          · have hp := hsub p List.mem_cons_self
            rw [Function.comp, ← ih p hp (wf.2 p hp) n1 h1]
            refine endless_congr fun s hs _ => ?_
            have : v s = 0 := wayAll_out h2 (n3 s hs)
            show ρ s - (u s + v s) = ρ s - u s
            omega
          · rw [← ihr v (fun q hq => hsub q (List.mem_cons_of_mem _ hq)) n2 h2]
            refine List.map_congr_left fun q hq => endless_congr fun s hs _ => ?_
            have : u s = 0 := way_out h1 s fun z => n3 s z (mem_namesL.mpr ⟨q, hq, hs⟩)
            show ρ s - (u s + v s) = ρ s - v s
            omega
      rw [key ps w (fun p hp => hp) nd' h]
    | false =>
      rw [way_or] at h
      rw [endless_or, endless_or]
      have key : ∀ (qs : List (Fm α)), (∀ p ∈ qs, p ∈ ps) → (namesL qs).Nodup → WayAny qs w → oSum (qs.map (endless (fun s => ρ s - w s) L)) = (oSum (qs.map (endless ρ L))).map (· - 1) := by
        intro qs
        induction qs with
        | nil => intro _ _ hw; rw [WayAny] at hw; exact hw.elim
        | cons p r ihr =>
          intro hsub hnd hw
          obtain ⟨n1, n2, n3⟩ := nodup_parts hnd
          rw [WayAny] at hw
          have hp := hsub p List.mem_cons_self
          rw [List.map_cons, List.map_cons]
          rcases hw with hw | hw
          · have e2 : r.map (endless (fun s => ρ s - w s) L) = r.map (endless ρ L) := List.map_congr_left fun q hq => endless_congr fun s hs _ => by
              have : w s = 0 := way_out hw s fun z => n3 s z (mem_namesL.mpr ⟨q, hq, hs⟩)
              omega
            rw [ih p hp (wf.2 p hp) n1 hw, e2]
            cases endless ρ L p with
            | none => rfl
            | some x =>
              show oSum (some (x - 1) :: _) = _
              rw [oSum_cons, oSum_cons]
              cases oSum (r.map (endless ρ L)) with
              | none => rfl
              | some y => show some (x - 1 + y) = some (x + y - 1); congr 1; omega
          · have e1 : endless (fun s => ρ s - w s) L p = endless ρ L p := endless_congr fun s hs _ => by
              obtain ⟨q, hq, hw'⟩ := wayAny_iff.mp hw
              have : w s = 0 := way_out hw' s fun z => n3 s hs (mem_namesL.mpr ⟨q, hq, z⟩)
              omega
            rw [e1]
            cases endless ρ L p with
            | none => rfl
            | some x =>
              rw [oSum_cons, oSum_cons, ihr (fun q hq => hsub q (List.mem_cons_of_mem _ hq)) n2 hw]
              cases oSum (r.map (endless ρ L)) with
              | none => rfl
              | some y => show some (x + (y - 1)) = some (x + y - 1); congr 1; omega
      exact key ps (fun p hp => hp) nd' h

/-! ### where there is a piece, a way fits -/
def Fits (ρ : α → Int) (L : List α) (f : Fm α) (w : α → Int) : Prop := ∀ s ∈ f.names, s ∉ L → w s ≤ ρ s
theorem fit {f : Fm α} {ρ : α → Int} {L : List α} {B : Nat} (wf : Wf B f) (nd : f.names.Nodup) (h0 : ∀ s ∈ f.names, s ∉ L → 0 ≤ ρ s) (h : ∀ e, endless ρ L f = some e → 1 ≤ e) : ∃ w, Way f w ∧ Fits ρ L f w := by
  induction f using Fm.ind generalizing ρ B with
  | hk s =>
    refine ⟨fun x => if x = s then 1 else 0, way_kind.mpr rfl, fun x hx hL => ?_⟩
    have e : x = s := by simpa [Fm.names] using hx
    subst e
    show (if x = x then 1 else 0 : Int) ≤ ρ x
    rw [if_pos rfl]
    exact h _ (by rw [endless_kind, if_neg hL])
  | hm n p ih =>
    rw [Wf.many] at wf
    have nd' : p.names.Nodup := by simpa [Fm.names] using nd
    have key : ∀ (k : Nat) (ρ : α → Int), (∀ s ∈ p.names, s ∉ L → 0 ≤ ρ s) → (∀ e, endless ρ L p = some e → (k : Int) ≤ e) → ∃ ws : List (α → Int), ws.length = k ∧ (∀ v ∈ ws, Way p v) ∧ ∀ s ∈ p.names, s ∉ L → sumF ws s ≤ ρ s := by
      intro k
      induction k with
      | zero => exact fun ρ h0 _ => ⟨[], rfl, fun v hv => by (cases hv), fun s hs hL => h0 s hs hL⟩
      | succ k ihk =>
        intro ρ h0 h
        obtain ⟨v, hv, hf⟩ := ih (ρ := ρ) wf.2.2 nd' h0 fun e he => by have := h e he; omega
        obtain ⟨ws, e1, e2, e3⟩ := ihk (fun s => ρ s - v s) (fun s hs hL => by have := hf s hs hL; omega) fun e he => by
          rw [fall wf.2.2 nd' hv] at he
          cases q : endless ρ L p with
          | none => rw [q] at he; cases he
          | some x =>
            rw [q] at he
            cases he
            have := h x q
            show (k : Int) ≤ x - 1
            omega
        refine ⟨v :: ws, by rw [List.length_cons, e1], fun u hu => ?_, fun s hs hL => ?_⟩
        · rcases List.mem_cons.mp hu with e | hu
          · rw [e]; exact hv
          · exact e2 u hu
        · have := e3 s hs hL
          have := hf s hs hL
          rw [sumF]
          omega
    obtain ⟨ws, e1, e2, e3⟩ := key n ρ (by simpa [Fm.names] using h0) fun e he => by
      have q := h (e / (n : Int)) (by rw [endless_many, he]; rfl)
      have hn : (0 : Int) < n := by omega
      have := (Int.le_ediv_iff_mul_le hn).mp q
      omega
    exact ⟨sumF ws, way_many.mpr ⟨ws, e1, e2, rfl⟩, fun s hs hL => e3 s (by simpa [Fm.names] using hs) hL⟩
  | hn b ps ih =>
    rw [Wf.node] at wf
    have nd' : (namesL ps).Nodup := by simpa [Fm.names] using nd
    cases b with
    | true =>
      rw [endless_and] at h
      have hall : ∀ p ∈ ps, ∀ e, endless ρ L p = some e → 1 ≤ e := fun p hp e he => by
        cases q : oMin (ps.map (endless ρ L)) with
        | none =>
          have := oMin_none.mp q _ (List.mem_map.mpr ⟨p, hp, he⟩)
          cases this
        | some m =>
          have h1 := h m q
          have h2 := (oMin_some q).2 e (List.mem_map.mpr ⟨p, hp, he⟩)
          omega
      have key : ∀ qs : List (Fm α), (∀ p ∈ qs, p ∈ ps) → (namesL qs).Nodup → ∃ w, WayAll qs w ∧ ∀ s ∈ namesL qs, s ∉ L → w s ≤ ρ s := by
        intro qs
        induction qs with
        | nil => intro _ _; exact ⟨fun _ => 0, by rw [WayAll], fun s hs => by rw [namesL] at hs; cases hs⟩
        | cons p r ihr =>
          intro hsub hnd
          obtain ⟨n1, n2, n3⟩ := nodup_parts hnd
          have hp := hsub p List.mem_cons_self
          obtain ⟨u, hu, fu⟩ := ih p hp (wf.2 p hp) n1 (fun s hs => h0 s (mem_part hp hs)) (hall p hp)
          obtain ⟨v, hv, fv⟩ := ihr (fun q hq => hsub q (List.mem_cons_of_mem _ hq)) n2
          refine ⟨fun s => u s + v s, by rw [WayAll]; exact ⟨u, v, hu, hv, rfl⟩, fun s hs hL => ?_⟩
          rw [namesL, List.mem_append] at hs
          rcases hs with hs | hs
          · have a := fu s hs hL
            have b : v s = 0 := wayAll_out hv (n3 s hs)
            show u s + v s ≤ ρ s
            omega
          · have a := fv s hs hL
            have b : u s = 0 := way_out hu s fun z => n3 s z hs
            show u s + v s ≤ ρ s
            omega
      obtain ⟨w, hw, fw⟩ := key ps (fun p hp => hp) nd'
      exact ⟨w, way_and.mpr hw, fun s hs => fw s (by simpa [Fm.names] using hs)⟩
    | false =>
      rw [endless_or] at h
      have hex : ∃ p ∈ ps, ∀ e, endless ρ L p = some e → 1 ≤ e := by
        refine Classical.byContradiction fun hno => ?_
        have hno' : ∀ p ∈ ps, ∃ e, endless ρ L p = some e ∧ e ≤ 0 := fun p hp => by
          refine Classical.byContradiction fun z => hno ⟨p, hp, fun e he => ?_⟩
          refine Classical.byContradiction fun y => z ⟨e, he, by omega⟩
        clear hno
        have : ∃ m, oSum (ps.map (endless ρ L)) = some m ∧ m ≤ 0 := by
          clear h ih wf nd nd' h0
          induction ps with
          | nil => exact ⟨0, rfl, Int.le_refl 0⟩
          | cons p r ihr =>
            obtain ⟨e, he, hle⟩ := hno' p List.mem_cons_self
            obtain ⟨m, hm, hl⟩ := ihr fun q hq => hno' q (List.mem_cons_of_mem _ hq)
            exact ⟨e + m, by rw [List.map_cons, he, oSum_cons, hm]; rfl, by omega⟩
        obtain ⟨m, hm, hl⟩ := this
        have := h m hm
        omega
      obtain ⟨p, hp, hpe⟩ := hex
      have ndp : p.names.Nodup := by
        clear ih wf h0 h hpe nd
        induction ps with
        | nil => cases hp
        | cons q r ihr =>
          obtain ⟨n1, n2, _⟩ := nodup_parts nd'
          rcases List.mem_cons.mp hp with e | hp
          · rw [e]; exact n1
          · exact ihr n2 hp
      have disj : ∀ s ∈ namesL ps, s ∉ p.names → True := fun _ _ _ => trivial
      obtain ⟨w, hw, fw⟩ := ih p hp (wf.2 p hp) ndp (fun s hs => h0 s (mem_part hp hs)) hpe
      refine ⟨w, way_or.mpr (wayAny_iff.mpr ⟨p, hp, hw⟩), fun s hs hL => ?_⟩
      by_cases q : s ∈ p.names
      · exact fw s q hL
      · rw [way_out hw s q]
        exact h0 s hs hL

/-- an endless number: a way that uses only the kinds of the lot -/
theorem free_way {f : Fm α} {ρ : α → Int} {L : List α} {B : Nat} (wf : Wf B f) (nd : f.names.Nodup) (h : endless ρ L f = none) : ∃ w, Way f w ∧ ∀ s, s ∉ L → w s = 0 := by
  have h' := endless_none ρ (fun _ => 0) h
  obtain ⟨w, hw, fw⟩ := fit (ρ := fun _ => 0) wf nd (fun _ _ _ => Int.le_refl 0) fun e he => by rw [h'] at he; cases he
  refine ⟨w, hw, fun s hL => ?_⟩
  by_cases q : s ∈ f.names
  · have a : w s ≤ 0 := fw s q hL
    have b := way_nonneg hw s
    omega
  · exact way_out hw s q
/-- a number with an end: each way uses a kind out of the lot -/
theorem no_free_way {f : Fm α} {ρ : α → Int} {L : List α} {B : Nat} {e : Int} (wf : Wf B f) (nd : f.names.Nodup) (h : endless ρ L f = some e) {w : α → Int} (hw : Way f w) : ∃ s ∈ f.names, s ∉ L ∧ 0 < w s := by
  refine Classical.byContradiction fun hno => ?_
  have z : ∀ s ∈ f.names, s ∉ L → w s = 0 := fun s hs hL => by
    refine Classical.byContradiction fun y => hno ⟨s, hs, hL, ?_⟩
    have := way_nonneg hw s
    omega
  have e1 := fall (ρ := ρ) (L := L) wf nd hw
  rw [endless_congr (ρ' := ρ) fun s hs hL => by have := z s hs hL; omega, h] at e1
  have e2 : e = e - 1 := Option.some.inj e1
  omega
end
end K23
set_option autoImplicit false
/-! M3: what more of one kind gives: the least amount; sizes. -/
namespace K23
section
variable {α : Type} [DecidableEq α]
/-- the numbers of the parts that have not the kind -/
def others (ρ : α → Int) (name : α) (ps : List (Fm α)) : List Int := (ps.filter fun p => decide (name ∉ p.names)).map (num ρ)
mutual
def target (ρ : α → Int) (name : α) : Fm α → Int → Option Int
  | .kind _, m => some m
  | .many n p, m => target ρ name p (m * (n : Int))
  | .node b ps, m => if b then (if m ≤ lmin (others ρ name ps) then targetL ρ name ps m else none) else targetL ρ name ps (m - (others ρ name ps).sum)
def targetL (ρ : α → Int) (name : α) : List (Fm α) → Int → Option Int
  | [], _ => none
  | p :: r, m => if name ∈ p.names then target ρ name p m else targetL ρ name r m
end
theorem target_kind (ρ : α → Int) (name s : α) (m : Int) : target ρ name (.kind s) m = some m := by rw [target]
theorem target_many (ρ : α → Int) (name : α) (n : Nat) (p : Fm α) (m : Int) : target ρ name (.many n p) m = target ρ name p (m * (n : Int)) := by rw [target]
theorem target_and (ρ : α → Int) (name : α) (ps : List (Fm α)) (m : Int) : target ρ name (.node true ps) m = if m ≤ lmin (others ρ name ps) then targetL ρ name ps m else none := by rw [target]; rfl
theorem target_or (ρ : α → Int) (name : α) (ps : List (Fm α)) (m : Int) : target ρ name (.node false ps) m = targetL ρ name ps (m - (others ρ name ps).sum) := by rw [target]; rfl
mutual
def size (name : α) : Fm α → Int
  | .kind _ => 1
  | .many n p => (n : Int) * size name p
  | .node _ ps => sizeL name ps
def sizeL (name : α) : List (Fm α) → Int
  | [] => 1
  | p :: r => if name ∈ p.names then size name p else sizeL name r
end
theorem size_kind (name s : α) : size name (.kind s) = 1 := by rw [size]
theorem size_many (name : α) (n : Nat) (p : Fm α) : size name (.many n p) = (n : Int) * size name p := by rw [size]
theorem size_node (name : α) (b : Bool) (ps : List (Fm α)) : size name (.node b ps) = sizeL name ps := by rw [size]

/-- the one part that has the kind -/
structure Part (name : α) (ps : List (Fm α)) (l : List (Fm α)) (p : Fm α) (r : List (Fm α)) : Prop where
  eq : ps = l ++ p :: r
  has : name ∈ p.names
  left : ∀ q ∈ l, name ∉ q.names
  right : ∀ q ∈ r, name ∉ q.names
theorem part_of {name : α} : ∀ {ps : List (Fm α)}, (namesL ps).Nodup → name ∈ namesL ps → ∃ l p r, Part name ps l p r
  | [], _, h => by rw [namesL] at h; cases h
  | q :: qs, nd, h => by
    obtain ⟨n1, n2, n3⟩ := nodup_parts nd
    by_cases c : name ∈ q.names
    · exact ⟨[], q, qs, rfl, c, fun _ z => by (cases z), fun x hx z => n3 name c (mem_namesL.mpr ⟨x, hx, z⟩)⟩
    · have h' : name ∈ namesL qs := by
        rw [namesL, List.mem_append] at h
        exact h.resolve_left c
      obtain ⟨l, p, r, e, a, b, d⟩ := part_of n2 h'
      refine ⟨q :: l, p, r, by rw [e]; rfl, a, fun x hx => ?_, d⟩
      rcases List.mem_cons.mp hx with e | hx
      · rw [e]; exact c
      · exact b x hx
theorem Part.mem {name : α} {ps l : List (Fm α)} {p : Fm α} {r : List (Fm α)} (h : Part name ps l p r) : p ∈ ps := by rw [h.eq]; simp
theorem Part.target {name : α} {ps l : List (Fm α)} {p : Fm α} {r : List (Fm α)} (h : Part name ps l p r) (ρ : α → Int) (m : Int) : targetL ρ name ps m = K23.target ρ name p m := by
  obtain ⟨e, a, b, d⟩ := h
  rw [e]
  clear e
  induction l with
  | nil => rw [List.nil_append, targetL, if_pos a]
  | cons q l ih => rw [List.cons_append, targetL, if_neg (b q List.mem_cons_self), ih fun x hx => b x (List.mem_cons_of_mem _ hx)]
theorem Part.size {name : α} {ps l : List (Fm α)} {p : Fm α} {r : List (Fm α)} (h : Part name ps l p r) : sizeL name ps = K23.size name p := by
  obtain ⟨e, a, b, d⟩ := h
  rw [e]
  clear e
  induction l with
  | nil => rw [List.nil_append, sizeL, if_pos a]
  | cons q l ih => rw [List.cons_append, sizeL, if_neg (b q List.mem_cons_self), ih fun x hx => b x (List.mem_cons_of_mem _ hx)]
theorem Part.others {name : α} {ps l : List (Fm α)} {p : Fm α} {r : List (Fm α)} (h : Part name ps l p r) (ρ : α → Int) : K23.others ρ name ps = (l ++ r).map (num ρ) := by
  obtain ⟨e, a, b, d⟩ := h
  unfold K23.others
  congr 1
  rw [e, List.filter_append, List.filter_cons, if_neg (by simpa using a)]
  congr 1
  · exact List.filter_eq_self.mpr fun q hq => decide_eq_true (b q hq)
  · exact List.filter_eq_self.mpr fun q hq => decide_eq_true (d q hq)
theorem Part.nodup {name : α} {ps l : List (Fm α)} {p : Fm α} {r : List (Fm α)} (h : Part name ps l p r) (nd : (namesL ps).Nodup) : p.names.Nodup := by
  have hp := h.mem
  clear h
  induction ps with
  | nil => cases hp
  | cons q qs ih =>
    obtain ⟨n1, n2, _⟩ := nodup_parts nd
    rcases List.mem_cons.mp hp with e | hp
    · rw [e]; exact n1
    · exact ih n2 hp
/-- with an amount of one kind -/
def put (ρ : α → Int) (name : α) (x : Int) : α → Int := fun s => if s = name then x else ρ s
theorem put_same {ρ : α → Int} {name : α} {x : Int} : put ρ name x name = x := if_pos rfl
theorem put_ne {ρ : α → Int} {name s : α} {x : Int} (h : s ≠ name) : put ρ name x s = ρ s := if_neg h
theorem num_put_out {ρ : α → Int} {name : α} {x : Int} {f : Fm α} (h : name ∉ f.names) : num (put ρ name x) f = num ρ f :=
  num_congr fun s hs => put_ne fun e => h (by rw [← e]; exact hs)
theorem Part.others_ne {name : α} {ps l : List (Fm α)} {p : Fm α} {r : List (Fm α)} (h : Part name ps l p r) (h2 : 2 ≤ ps.length) : l ++ r ≠ [] := by
  intro e
  have := congrArg List.length h.eq
  have e1 : l = [] ∧ r = [] := by simpa using e
  rw [e1.1, e1.2] at this
  simp at this
  omega
theorem Part.perm {name : α} {ps l : List (Fm α)} {p : Fm α} {r : List (Fm α)} (h : Part name ps l p r) : ps.Perm (p :: (l ++ r)) := by
  rw [h.eq]; exact List.perm_middle
theorem Part.others_map {name : α} {ps l : List (Fm α)} {p : Fm α} {r : List (Fm α)} (h : Part name ps l p r) (ρ : α → Int) (x : Int) : (l ++ r).map (num (put ρ name x)) = (l ++ r).map (num ρ) :=
  List.map_congr_left fun q hq => num_put_out <| by
    rcases List.mem_append.mp hq with z | z
    · exact h.left q z
    · exact h.right q z

/-- THE LEAST AMOUNT: so many pieces come exactly with the target or more -/
theorem target_iff {B : Nat} {ρ : α → Int} {name : α} {f : Fm α} (wf : Wf B f) (nd : f.names.Nodup) (hn : name ∈ f.names) (m x : Int) :
    m ≤ num (put ρ name x) f ↔ ∃ t, target ρ name f m = some t ∧ t ≤ x := by
  induction f using Fm.ind generalizing B m with
  | hk s =>
    have e : name = s := by simpa [Fm.names] using hn
    subst e
    rw [num_kind, put_same, target_kind]
    exact ⟨fun h => ⟨m, rfl, h⟩, fun ⟨t, e, h⟩ => by cases e; exact h⟩
  | hm n p ih =>
    rw [Wf.many] at wf
    rw [num_many, target_many, ← ih wf.2.2 (by simpa [Fm.names] using nd) (by simpa [Fm.names] using hn)]
    exact Int.le_ediv_iff_mul_le (by omega)
  | hn b ps ih =>
    rw [Wf.node] at wf
    have nd' : (namesL ps).Nodup := by simpa [Fm.names] using nd
    have hn' : name ∈ namesL ps := by simpa [Fm.names] using hn
    obtain ⟨l, p, r, hP⟩ := part_of nd' hn'
    have ihp := ih p hP.mem (wf.2 p hP.mem) (hP.nodup nd') hP.has
    have perm := hP.perm.map (num (put ρ name x))
    rw [List.map_cons, hP.others_map] at perm
    cases b with
    | true =>
      rw [num_and, target_and, hP.target, hP.others, lmin_perm perm]
      have ne : (l ++ r).map (num ρ) ≠ [] := fun e => hP.others_ne wf.1 (by simpa using e)
      rw [lmin_cons ne]
      by_cases c : m ≤ lmin ((l ++ r).map (num ρ))
      · rw [if_pos c, ← ihp]
        omega
      · rw [if_neg c]
        constructor
        · intro h; omega
        · rintro ⟨t, e, _⟩; cases e
    | false =>
      rw [num_or, target_or, hP.target, hP.others, sum_perm perm, List.sum_cons, ← ihp]
      omega
theorem size_pos {B : Nat} {name : α} {f : Fm α} (wf : Wf B f) : 1 ≤ size name f ∧ size name f ≤ B := by
  induction f using Fm.ind generalizing B with
  | hk s => rw [size_kind]; have := Wf.kind.mp wf; omega
  | hm n p ih =>
    rw [Wf.many] at wf
    obtain ⟨h1, h2⟩ := ih wf.2.2
    rw [size_many]
    have hB : ((B / n : Nat) : Int) * n ≤ B := by exact_mod_cast Nat.div_mul_le_self B n
    constructor
    · have a : (1 : Int) * 1 ≤ (n : Int) * size name p := Int.mul_le_mul (by omega) h1 (by omega) (by omega)
      omega
    · have a : (n : Int) * size name p ≤ (n : Int) * ((B / n : Nat) : Int) := Int.mul_le_mul_of_nonneg_left h2 (by omega)
      rw [Int.mul_comm (n : Int) ((B / n : Nat) : Int)] at a
      omega
  | hn b ps ih =>
    rw [Wf.node] at wf
    rw [size_node]
    have key : ∀ qs : List (Fm α), (∀ q ∈ qs, q ∈ ps) → (qs = [] → 1 ≤ B) → 1 ≤ sizeL name qs ∧ sizeL name qs ≤ (B : Int) := by
      intro qs
      induction qs with
      | nil => intro _ h; rw [sizeL]; have := h rfl; omega
      | cons q r ihr =>
        intro hs _
        rw [sizeL]
        by_cases c : name ∈ q.names
        · rw [if_pos c]; exact ih q (hs q List.mem_cons_self) (wf.2 q (hs q List.mem_cons_self))
        · rw [if_neg c]
          exact ihr (fun x hx => hs x (List.mem_cons_of_mem _ hx)) fun _ => (wf.2 q (hs q List.mem_cons_self)).pos
    exact key ps (fun q hq => hq) fun e => by rw [e] at wf; simp at wf
/-- one piece more takes the size more -/
theorem target_next {B : Nat} {ρ : α → Int} {name : α} {f : Fm α} (wf : Wf B f) (nd : f.names.Nodup) (hn : name ∈ f.names) {m k t t' : Int} (h : target ρ name f m = some t) (h' : target ρ name f (m + k) = some t') : t' = t + k * size name f := by
  induction f using Fm.ind generalizing B m k with
  | hk s => rw [target_kind] at h h'; rw [size_kind]; cases h; cases h'; omega
  | hm n p ih =>
    rw [Wf.many] at wf
    rw [target_many] at h h'
    rw [Int.add_mul] at h'
    rw [size_many, ← Int.mul_assoc]
    exact ih wf.2.2 (by simpa [Fm.names] using nd) (by simpa [Fm.names] using hn) h h'
  | hn b ps ih =>
    rw [Wf.node] at wf
    have nd' : (namesL ps).Nodup := by simpa [Fm.names] using nd
    have hn' : name ∈ namesL ps := by simpa [Fm.names] using hn
    obtain ⟨l, p, r, hP⟩ := part_of nd' hn'
    have ihp := @ih p hP.mem B
    rw [size_node, hP.size]
    cases b with
    | true =>
      rw [target_and, hP.target] at h h'
      split at h
      · split at h'
        · exact ihp (wf.2 p hP.mem) (hP.nodup nd') hP.has h h'
        · cases h'
      · cases h
    | false =>
      rw [target_or, hP.target] at h h'
      rw [show m + k - (others ρ name ps).sum = (m - (others ρ name ps).sum) + k by omega] at h'
      exact ihp (wf.2 p hP.mem) (hP.nodup nd') hP.has h h'
theorem target_le {B : Nat} {ρ : α → Int} {name : α} {f : Fm α} (wf : Wf B f) (nd : f.names.Nodup) (hn : name ∈ f.names) (h0 : ∀ s ∈ f.names, 0 ≤ ρ s) {m t : Int} (h : target ρ name f m = some t) : t ≤ size name f * m := by
  induction f using Fm.ind generalizing B m with
  | hk s => rw [target_kind] at h; rw [size_kind]; cases h; omega
  | hm n p ih =>
    rw [Wf.many] at wf
    rw [target_many] at h
    have a := ih wf.2.2 (by simpa [Fm.names] using nd) (by simpa [Fm.names] using hn) (by simpa [Fm.names] using h0) h
    rw [size_many]
    have e : (n : Int) * size name p * m = size name p * (m * (n : Int)) := by
      rw [Int.mul_comm (n : Int) (size name p), Int.mul_assoc, Int.mul_comm (n : Int) m]
    rw [e]; exact a
  | hn b ps ih =>
    rw [Wf.node] at wf
    have nd' : (namesL ps).Nodup := by simpa [Fm.names] using nd
    have hn' : name ∈ namesL ps := by simpa [Fm.names] using hn
    obtain ⟨l, p, r, hP⟩ := part_of nd' hn'
    have ihp := @ih p hP.mem B
    have h0p : ∀ s ∈ p.names, 0 ≤ ρ s := fun s hs => h0 s (mem_part hP.mem hs)
    rw [size_node, hP.size]
    cases b with
    | true =>
      rw [target_and, hP.target] at h
      split at h
      · exact ihp (wf.2 p hP.mem) (hP.nodup nd') hP.has h0p h
      · cases h
    | false =>
      rw [target_or, hP.target] at h
      have a := ihp (wf.2 p hP.mem) (hP.nodup nd') hP.has h0p h
      have hS : 0 ≤ (others ρ name ps).sum := sum_nonneg fun k hk => by
        obtain ⟨q, hq, e⟩ := List.mem_map.mp hk
        rw [← e]
        have hq' := (List.mem_filter.mp hq).1
        exact num_nonneg (wf.2 q hq') fun s hs => h0 s (mem_part hq' hs)
      have b : size name p * (m - (others ρ name ps).sum) ≤ size name p * m := Int.mul_le_mul_of_nonneg_left (by omega) (by have := (size_pos (name := name) (wf.2 p hP.mem)).1; omega)
      omega
/-- the target does not hang on the kind's own amount -/
theorem target_own {B : Nat} {ρ : α → Int} {name : α} {f : Fm α} (x m : Int) : target (put ρ name x) name f m = target ρ name f m := by
  induction f using Fm.ind generalizing m with
  | hk s => rw [target_kind, target_kind]
  | hm n p ih => rw [target_many, target_many, ih]
  | hn b ps ih =>
    have eo : others (put ρ name x) name ps = others ρ name ps := by
      unfold others
      refine List.map_congr_left fun q hq => num_put_out ?_
      exact of_decide_eq_true (List.mem_filter.mp hq).2
    have el : ∀ (qs : List (Fm α)) (m : Int), (∀ q ∈ qs, q ∈ ps) → targetL (put ρ name x) name qs m = targetL ρ name qs m := by
      intro qs m
      induction qs with
      | nil => intro _; rw [targetL, targetL]
      | cons q r ihr =>
        intro hs
        rw [targetL, targetL, ih q (hs q List.mem_cons_self), ihr fun y hy => hs y (List.mem_cons_of_mem _ hy)]
    cases b with
    | true => rw [target_and, target_and, eo, el ps m fun q hq => hq]
    | false => rw [target_or, target_or, eo, el ps _ fun q hq => hq]
theorem target_congr {ρ ρ' : α → Int} {name : α} {f : Fm α} (h : ∀ s ∈ f.names, s ≠ name → ρ s = ρ' s) (m : Int) : target ρ name f m = target ρ' name f m := by
  induction f using Fm.ind generalizing m with
  | hk s => rw [target_kind, target_kind]
  | hm n p ih => rw [target_many, target_many, ih (by simpa [Fm.names] using h)]
  | hn b ps ih =>
    have eo : others ρ name ps = others ρ' name ps := by
      unfold others
      refine List.map_congr_left fun q hq => num_congr fun s hs => ?_
      have hq' := List.mem_filter.mp hq
      exact h s (mem_part hq'.1 hs) fun e => of_decide_eq_true hq'.2 (by rw [← e]; exact hs)
    have el : ∀ (qs : List (Fm α)) (m : Int), (∀ q ∈ qs, q ∈ ps) → targetL ρ name qs m = targetL ρ' name qs m := by
      intro qs m
      induction qs with
      | nil => intro _; rw [targetL, targetL]
      | cons q r ihr =>
        intro hs
        rw [targetL, targetL, ih q (hs q List.mem_cons_self) (fun s hsq => h s (mem_part (hs q List.mem_cons_self) hsq)), ihr fun y hy => hs y (List.mem_cons_of_mem _ hy)]
    cases b with
    | true => rw [target_and, target_and, eo, el ps m fun q hq => hq]
    | false => rw [target_or, target_or, eo, el ps _ fun q hq => hq]

/-! ### the greatest amount of a kind in a way is its size -/
theorem way_exists {B : Nat} {f : Fm α} (wf : Wf B f) : ∃ w, Way f w := by
  induction f using Fm.ind generalizing B with
  | hk s => exact ⟨_, way_kind.mpr rfl⟩
  | hm n p ih =>
    rw [Wf.many] at wf
    obtain ⟨w, hw⟩ := ih wf.2.2
    exact ⟨_, way_many.mpr ⟨List.replicate n w, by simp, fun v hv => by rw [List.eq_of_mem_replicate hv]; exact hw, rfl⟩⟩
  | hn b ps ih =>
    rw [Wf.node] at wf
    cases b with
    | true =>
      have key : ∀ qs : List (Fm α), (∀ q ∈ qs, q ∈ ps) → ∃ w, WayAll qs w := by
        intro qs
        induction qs with
        | nil => intro _; exact ⟨fun _ => 0, by rw [WayAll]⟩
        | cons q r ihr =>
          intro hs
          obtain ⟨u, hu⟩ := ih q (hs q List.mem_cons_self) (wf.2 q (hs q List.mem_cons_self))
          obtain ⟨v, hv⟩ := ihr fun y hy => hs y (List.mem_cons_of_mem _ hy)
          exact ⟨_, by rw [WayAll]; exact ⟨u, v, hu, hv, rfl⟩⟩
      obtain ⟨w, hw⟩ := key ps fun q hq => hq
      exact ⟨w, way_and.mpr hw⟩
    | false =>
      match ps, wf, ih with
      | p :: r, wf, ih =>
        obtain ⟨w, hw⟩ := ih p List.mem_cons_self (wf.2 p List.mem_cons_self)
        exact ⟨w, way_or.mpr (by rw [WayAny]; exact .inl hw)⟩
theorem wayAll_part {name : α} {ps l : List (Fm α)} {p : Fm α} {r : List (Fm α)} (h : Part name ps l p r) {w : α → Int} (hw : WayAll ps w) : ∃ u, Way p u ∧ w name = u name := by
  obtain ⟨e, a, b, d⟩ := h
  subst e
  induction l generalizing w with
  | nil =>
    rw [List.nil_append, WayAll] at hw
    obtain ⟨u, v, h1, h2, rfl⟩ := hw
    refine ⟨u, h1, ?_⟩
    have : v name = 0 := wayAll_out h2 fun z => by
      obtain ⟨q, hq, z⟩ := mem_namesL.mp z
      exact d q hq z
    show u name + v name = u name
    omega
  | cons q l ih =>
    rw [List.cons_append, WayAll] at hw
    obtain ⟨u, v, h1, h2, rfl⟩ := hw
    obtain ⟨u', h3, e⟩ := ih (fun x hx => b x (List.mem_cons_of_mem _ hx)) h2
    refine ⟨u', h3, ?_⟩
    have : u name = 0 := way_out h1 name (b q List.mem_cons_self)
    show u name + v name = u' name
    omega
theorem way_le_size {B : Nat} {name : α} {f : Fm α} (wf : Wf B f) (nd : f.names.Nodup) (hn : name ∈ f.names) {w : α → Int} (h : Way f w) : w name ≤ size name f := by
  induction f using Fm.ind generalizing B w with
  | hk s =>
    rw [way_kind] at h
    rw [size_kind, h]
    show (if name = s then 1 else 0 : Int) ≤ 1
    split <;> decide
  | hm n p ih =>
    rw [Wf.many] at wf
    rw [way_many] at h
    obtain ⟨ws, e, h2, rfl⟩ := h
    rw [size_many, ← e]
    have nd' : p.names.Nodup := by simpa [Fm.names] using nd
    have hn' : name ∈ p.names := by simpa [Fm.names] using hn
    clear e
    induction ws with
    | nil => simp [sumF]
    | cons v r ihr =>
      have a := ih wf.2.2 nd' hn' (h2 v List.mem_cons_self)
      have b := ihr fun u hu => h2 u (List.mem_cons_of_mem _ hu)
      rw [sumF, List.length_cons, Int.natCast_succ, Int.add_mul]
      omega
  | hn b ps ih =>
    rw [Wf.node] at wf
    have nd' : (namesL ps).Nodup := by simpa [Fm.names] using nd
    have hn' : name ∈ namesL ps := by simpa [Fm.names] using hn
    obtain ⟨l, p, r, hP⟩ := part_of nd' hn'
    rw [size_node, hP.size]
    cases b with
    | true =>
      obtain ⟨u, hu, e⟩ := wayAll_part hP (way_and.mp h)
      rw [e]
      exact ih p hP.mem (wf.2 p hP.mem) (hP.nodup nd') hP.has hu
    | false =>
      obtain ⟨q, hq, hw⟩ := wayAny_iff.mp (way_or.mp h)
      by_cases c : name ∈ q.names
      · have e : q = p := by
          rw [hP.eq] at hq
          rcases List.mem_append.mp hq with z | z
          · exact absurd c (hP.left q z)
          · rcases List.mem_cons.mp z with z | z
            · exact z
            · exact absurd c (hP.right q z)
        rw [e] at hw
        exact ih p hP.mem (wf.2 p hP.mem) (hP.nodup nd') hP.has hw
      · rw [way_out hw name c]
        have := (size_pos (name := name) (wf.2 p hP.mem)).1
        omega
theorem way_size {B : Nat} {name : α} {f : Fm α} (wf : Wf B f) (nd : f.names.Nodup) (hn : name ∈ f.names) : ∃ w, Way f w ∧ w name = size name f := by
  induction f using Fm.ind generalizing B with
  | hk s =>
    have e : name = s := by simpa [Fm.names] using hn
    exact ⟨_, way_kind.mpr rfl, by rw [size_kind]; exact if_pos e⟩
  | hm n p ih =>
    rw [Wf.many] at wf
    obtain ⟨w, hw, e⟩ := ih wf.2.2 (by simpa [Fm.names] using nd) (by simpa [Fm.names] using hn)
    refine ⟨_, way_many.mpr ⟨List.replicate n w, by simp, fun v hv => by rw [List.eq_of_mem_replicate hv]; exact hw, rfl⟩, ?_⟩
    rw [size_many, ← e]
    clear wf nd hn
    induction n with
    | zero => simp [sumF]
    | succ n ihn => rw [List.replicate_succ, sumF, ihn, Int.natCast_succ, Int.add_mul]; omega
  | hn b ps ih =>
    rw [Wf.node] at wf
    have nd' : (namesL ps).Nodup := by simpa [Fm.names] using nd
    have hn' : name ∈ namesL ps := by simpa [Fm.names] using hn
    obtain ⟨l, p, r, hP⟩ := part_of nd' hn'
    rw [size_node, hP.size]
    obtain ⟨w, hw, e⟩ := ih p hP.mem (wf.2 p hP.mem) (hP.nodup nd') hP.has
    cases b with
    | true =>
      have hr : ∃ v, WayAll r v := by
        have hs : ∀ q ∈ r, q ∈ ps := fun q hq => by rw [hP.eq]; simp [hq]
        clear hP
        induction r with
        | nil => exact ⟨fun _ => 0, by rw [WayAll]⟩
        | cons q r ihr =>
          obtain ⟨u, hu⟩ := way_exists (wf.2 q (hs q List.mem_cons_self))
          obtain ⟨v, hv⟩ := ihr fun y hy => hs y (List.mem_cons_of_mem _ hy)
          exact ⟨_, by rw [WayAll]; exact ⟨u, v, hu, hv, rfl⟩⟩
      obtain ⟨v, hv⟩ := hr
      have hl : ∃ x, WayAll (l ++ p :: r) x ∧ x name = w name := by
        have hs : ∀ q ∈ l, q ∈ ps := fun q hq => by rw [hP.eq]; simp [hq]
        have hln := hP.left
        have hrn : name ∉ namesL r := fun z => by
          obtain ⟨q, hq, z⟩ := mem_namesL.mp z
          exact hP.right q hq z
        clear hP
        induction l with
        | nil =>
          refine ⟨fun s => w s + v s, by rw [List.nil_append, WayAll]; exact ⟨w, v, hw, hv, rfl⟩, ?_⟩
          have : v name = 0 := wayAll_out hv hrn
          show w name + v name = w name
          omega
        | cons q l ihl =>
          obtain ⟨u, hu⟩ := way_exists (wf.2 q (hs q List.mem_cons_self))
          obtain ⟨x, hx, ex⟩ := ihl (fun y hy => hs y (List.mem_cons_of_mem _ hy)) fun y hy => hln y (List.mem_cons_of_mem _ hy)
          refine ⟨fun s => u s + x s, by rw [List.cons_append, WayAll]; exact ⟨u, x, hu, hx, rfl⟩, ?_⟩
          have : u name = 0 := way_out hu name (hln q List.mem_cons_self)
          show u name + x name = w name
          omega
      obtain ⟨x, hx, ex⟩ := hl
      exact ⟨x, way_and.mpr (by rw [hP.eq]; exact hx), ex.trans e⟩
    | false => exact ⟨w, way_or.mpr (wayAny_iff.mpr ⟨p, hP.mem, hw⟩), e⟩
end
end K23
set_option autoImplicit false
/-! M4: sides; the number of pieces is the least number of a side. -/
namespace K23
section
variable {α : Type} [DecidableEq α]
def prodAll : List (List (List α)) → List (List α)
  | [] => [[]]
  | l :: r => l.flatMap fun s => (prodAll r).map (s ++ ·)
/-- one turn of the program's loop -/
def prod1 (found more : List (List α)) : List (List α) := found.flatMap fun s => more.map (s ++ ·)
theorem foldl_prod : ∀ (ls : List (List (List α))) (acc : List (List α)), ls.foldl prod1 acc = acc.flatMap fun a => (prodAll ls).map (a ++ ·)
  | [], acc => by
    show acc = acc.flatMap fun a => [a ++ []]
    simp only [List.append_nil]
    induction acc with
    | nil => rfl
    | cons a r ih => rw [List.flatMap_cons, ← ih]; rfl
  | l :: ls, acc => by
    rw [List.foldl_cons, foldl_prod ls, prod1]
    rw [List.flatMap_assoc]
    congr 1
    funext a
    rw [prodAll, List.map_flatMap, List.flatMap_map]
    congr 1
    funext s
    rw [List.map_map]
    exact List.map_congr_left fun t _ => by show (a ++ s) ++ t = a ++ (s ++ t); rw [List.append_assoc]
theorem fold_prod (ls : List (List (List α))) : ls.foldl prod1 [[]] = prodAll ls := by
  rw [foldl_prod, List.flatMap_cons, List.flatMap_nil, List.append_nil]
  simp
mutual
def sidesIn : Fm α → List (List α)
  | .kind s => [[s]]
  | .many _ p => sidesIn p
  | .node b ps => if b then (sidesL ps).flatten else prodAll (sidesL ps)
def sidesL : List (Fm α) → List (List (List α))
  | [] => []
  | p :: r => sidesIn p :: sidesL r
end
theorem sidesL_eq (ps : List (Fm α)) : sidesL ps = ps.map sidesIn := by
  induction ps with
  | nil => rfl
  | cons p r ih => rw [sidesL, ih, List.map_cons]
theorem sides_kind (s : α) : sidesIn (.kind s) = [[s]] := by rw [sidesIn]
theorem sides_many (n : Nat) (p : Fm α) : sidesIn (.many n p) = sidesIn p := by rw [sidesIn]
theorem sides_and (ps : List (Fm α)) : sidesIn (.node true ps) = (ps.map sidesIn).flatten := by rw [sidesIn, sidesL_eq]; rfl
theorem sides_or (ps : List (Fm α)) : sidesIn (.node false ps) = prodAll (ps.map sidesIn) := by rw [sidesIn, sidesL_eq]; rfl
/-- whether a side meets a part -/
def meets (S : List α) (p : Fm α) : Bool := p.names.any fun s => decide (s ∈ S)
theorem meets_iff {S : List α} {p : Fm α} : meets S p = true ↔ ∃ s ∈ p.names, s ∈ S := by
  unfold meets
  rw [List.any_eq_true]
  constructor
  · rintro ⟨s, a, b⟩; exact ⟨s, a, of_decide_eq_true b⟩
  · rintro ⟨s, a, b⟩; exact ⟨s, a, decide_eq_true b⟩
mutual
def sideNum (ρ : α → Int) (S : List α) : Fm α → Int
  | .kind s => ρ s
  | .many n p => sideNum ρ S p / (n : Int)
  | .node _ ps => sideSum ρ S ps
def sideSum (ρ : α → Int) (S : List α) : List (Fm α) → Int
  | [] => 0
  | p :: r => (if meets S p = true then sideNum ρ S p else 0) + sideSum ρ S r
end
theorem sideNum_kind (ρ : α → Int) (S : List α) (s : α) : sideNum ρ S (.kind s) = ρ s := by rw [sideNum]
theorem sideNum_many (ρ : α → Int) (S : List α) (n : Nat) (p : Fm α) : sideNum ρ S (.many n p) = sideNum ρ S p / (n : Int) := by rw [sideNum]
theorem sideNum_node (ρ : α → Int) (S : List α) (b : Bool) (ps : List (Fm α)) : sideNum ρ S (.node b ps) = sideSum ρ S ps := by rw [sideNum]
theorem sideSum_eq (ρ : α → Int) (S : List α) (ps : List (Fm α)) : sideSum ρ S ps = ((ps.filter (meets S)).map (sideNum ρ S)).sum := by
  induction ps with
  | nil => rfl
  | cons p r ih =>
    rw [sideSum, List.filter_cons, ih]
    split
    · rw [List.map_cons, List.sum_cons]
    · simp
theorem sideNum_congr {ρ : α → Int} {S S' : List α} {f : Fm α} (h : ∀ s ∈ f.names, s ∈ S ↔ s ∈ S') : sideNum ρ S f = sideNum ρ S' f := by
  induction f using Fm.ind with
  | hk s => rw [sideNum_kind, sideNum_kind]
  | hm n p ih => rw [sideNum_many, sideNum_many, ih (by simpa [Fm.names] using h)]
  | hn b ps ih =>
    rw [sideNum_node, sideNum_node]
    have key : ∀ qs : List (Fm α), (∀ q ∈ qs, q ∈ ps) → sideSum ρ S qs = sideSum ρ S' qs := by
      intro qs
      induction qs with
      | nil => intro _; rfl
      | cons q r ihr =>
        intro hs
        have hq : ∀ s ∈ q.names, s ∈ S ↔ s ∈ S' := fun s hsq => h s (mem_part (hs q List.mem_cons_self) hsq)
        have em : meets S q = meets S' q := by
          rw [Bool.eq_iff_iff, meets_iff, meets_iff]
          constructor
          · rintro ⟨s, a, b⟩; exact ⟨s, a, (hq s a).mp b⟩
          · rintro ⟨s, a, b⟩; exact ⟨s, a, (hq s a).mpr b⟩
        rw [sideSum, sideSum, em, ih q (hs q List.mem_cons_self) hq, ihr fun y hy => hs y (List.mem_cons_of_mem _ hy)]
    exact key ps fun q hq => hq
theorem mem_prodAll_cons {l : List (List α)} {r : List (List (List α))} {S : List α} : S ∈ prodAll (l :: r) ↔ ∃ a ∈ l, ∃ b ∈ prodAll r, S = a ++ b := by
  rw [prodAll, List.mem_flatMap]
  constructor
  · rintro ⟨a, ha, h⟩
    obtain ⟨b, hb, e⟩ := List.mem_map.mp h
    exact ⟨a, ha, b, hb, e.symm⟩
  · rintro ⟨a, ha, b, hb, e⟩
    exact ⟨a, ha, List.mem_map.mpr ⟨b, hb, e.symm⟩⟩
theorem side_in {B : Nat} {f : Fm α} (wf : Wf B f) {S : List α} (h : S ∈ sidesIn f) : S ≠ [] ∧ ∀ s ∈ S, s ∈ f.names := by
  induction f using Fm.ind generalizing B S with
  | hk s =>
    rw [sides_kind] at h
    have e : S = [s] := by simpa using h
    rw [e]
    exact ⟨by simp, fun x hx => by simpa [Fm.names] using hx⟩
  | hm n p ih =>
    rw [Wf.many] at wf
    rw [sides_many] at h
    obtain ⟨a, b⟩ := ih wf.2.2 h
    exact ⟨a, fun s hs => by simpa [Fm.names] using b s hs⟩
  | hn b ps ih =>
    rw [Wf.node] at wf
    cases b with
    | true =>
      rw [sides_and, List.mem_flatten] at h
      obtain ⟨l, hl, hS⟩ := h
      obtain ⟨p, hp, e⟩ := List.mem_map.mp hl
      rw [← e] at hS
      obtain ⟨a, b⟩ := ih p hp (wf.2 p hp) hS
      exact ⟨a, fun s hs => mem_part hp (b s hs)⟩
    | false =>
      rw [sides_or] at h
      have key : ∀ qs : List (Fm α), (∀ q ∈ qs, q ∈ ps) → ∀ S ∈ prodAll (qs.map sidesIn), (qs ≠ [] → S ≠ []) ∧ ∀ s ∈ S, s ∈ namesL qs := by
        intro qs
        induction qs with
        | nil =>
          intro _ S hS
          have e : S = [] := by simpa [prodAll] using hS
          rw [e]
          exact ⟨fun z => absurd rfl z, fun s hs => by (cases hs)⟩
        | cons q r ihr =>
          intro hs S hS
          rw [List.map_cons, mem_prodAll_cons] at hS
          obtain ⟨a, ha, b, hb, rfl⟩ := hS
          obtain ⟨h1, h2⟩ := ih q (hs q List.mem_cons_self) (wf.2 q (hs q List.mem_cons_self)) ha
          obtain ⟨h3, h4⟩ := ihr (fun y hy => hs y (List.mem_cons_of_mem _ hy)) b hb
          refine ⟨fun _ e => h1 (List.append_eq_nil_iff.mp e).1, fun s hs' => ?_⟩
          rw [namesL, List.mem_append]
          rcases List.mem_append.mp hs' with z | z
          · exact .inl (h2 s z)
          · exact .inr (h4 s z)
      obtain ⟨a, b⟩ := key ps (fun q hq => hq) S h
      exact ⟨a fun e => by rw [e] at wf; simp at wf, fun s hs => by rw [Fm.names]; exact b s hs⟩
/-- a side's part at a joint by "or" -/
theorem sideSum_prod {B : Nat} {ρ : α → Int} {q : Fm α} {r : List (Fm α)} (wf : Wf B q) (wr : ∀ x ∈ r, Wf B x) (nd : (namesL (q :: r)).Nodup) {a b : List α} (ha : a ∈ sidesIn q) (hb : ∀ s ∈ b, s ∈ namesL r) :
    sideSum ρ (a ++ b) (q :: r) = sideNum ρ a q + sideSum ρ b r := by
  obtain ⟨n1, n2, n3⟩ := nodup_parts nd
  obtain ⟨h1, h2⟩ := side_in wf ha
  have hm : meets (a ++ b) q = true := meets_iff.mpr <| by
    match a, h1, h2 with
    | s :: t, _, h2 => exact ⟨s, h2 s List.mem_cons_self, by simp⟩
  rw [sideSum, if_pos hm]
  congr 1
  · exact sideNum_congr fun s hs => by
      rw [List.mem_append]
      exact ⟨fun z => z.resolve_right fun y => n3 s hs (hb s y), .inl⟩
  · have key : ∀ qs : List (Fm α), (∀ x ∈ qs, x ∈ r) → sideSum ρ (a ++ b) qs = sideSum ρ b qs := by
      intro qs
      induction qs with
      | nil => intro _; rfl
      | cons x t ih =>
        intro hs
        have hx : ∀ s ∈ x.names, s ∈ a ++ b ↔ s ∈ b := fun s hsx => by
          rw [List.mem_append]
          exact ⟨fun z => z.resolve_left fun y => n3 s (h2 s y) (mem_namesL.mpr ⟨x, hs x List.mem_cons_self, hsx⟩), .inr⟩
        have em : meets (a ++ b) x = meets b x := by
          rw [Bool.eq_iff_iff, meets_iff, meets_iff]
          constructor
          · rintro ⟨s, c, d⟩; exact ⟨s, c, (hx s c).mp d⟩
          · rintro ⟨s, c, d⟩; exact ⟨s, c, (hx s c).mpr d⟩
        rw [sideSum, sideSum, em, sideNum_congr hx, ih fun y hy => hs y (List.mem_cons_of_mem _ hy)]
    exact key r fun x hx => hx
/-- at a joint by "and" a side is a side of one part -/
theorem sideSum_one {ρ : α → Int} {ps : List (Fm α)} {p : Fm α} (nd : (namesL ps).Nodup) (hp : p ∈ ps) {S : List α} (h1 : S ≠ []) (h2 : ∀ s ∈ S, s ∈ p.names) : sideSum ρ S ps = sideNum ρ S p := by
  induction ps with
  | nil => cases hp
  | cons q r ih =>
    obtain ⟨n1, n2, n3⟩ := nodup_parts nd
    rw [sideSum]
    rcases List.mem_cons.mp hp with e | hp'
    · subst e
      have hm : meets S p = true := meets_iff.mpr <| by
        match S, h1, h2 with
        | s :: t, _, h2 => exact ⟨s, h2 s List.mem_cons_self, by simp⟩
      have z : ∀ qs : List (Fm α), (∀ x ∈ qs, x ∈ r) → sideSum ρ S qs = 0 := by
        intro qs
        induction qs with
        | nil => intro _; rfl
        | cons x t iht =>
          intro hs
          have hx : ¬ meets S x = true := fun y => by
            obtain ⟨s, a, b⟩ := meets_iff.mp y
            exact n3 s (h2 s b) (mem_namesL.mpr ⟨x, hs x List.mem_cons_self, a⟩)
          rw [sideSum, if_neg hx, iht fun y hy => hs y (List.mem_cons_of_mem _ hy)]
          rfl
      rw [if_pos hm, z r fun x hx => hx]
      omega
    · have hx : ¬ meets S q = true := fun y => by
        obtain ⟨s, a, b⟩ := meets_iff.mp y
        exact n3 s a (mem_namesL.mpr ⟨p, hp', h2 s b⟩)
      rw [if_neg hx, ih n2 hp']
      omega
/-- THE NUMBER IS THE LEAST NUMBER OF A SIDE, those sides alone that have nothing of the lot -/
theorem sides_least {B : Nat} {ρ : α → Int} {L : List α} {f : Fm α} (wf : Wf B f) (nd : f.names.Nodup) :
    (endless ρ L f = none → ∀ S ∈ sidesIn f, ∃ s ∈ S, s ∈ L) ∧
    (∀ e, endless ρ L f = some e → (∀ S ∈ sidesIn f, (∀ s ∈ S, s ∉ L) → e ≤ sideNum ρ S f) ∧ ∃ S ∈ sidesIn f, (∀ s ∈ S, s ∉ L) ∧ sideNum ρ S f = e) := by
  induction f using Fm.ind generalizing B with
  | hk s =>
    rw [endless_kind, sides_kind]
    by_cases q : s ∈ L
    · rw [if_pos q]
      refine ⟨fun _ S hS => ?_, fun e he => by (cases he)⟩
      have e : S = [s] := by simpa using hS
      exact ⟨s, by rw [e]; simp, q⟩
    · rw [if_neg q]
      refine ⟨fun h => by (cases h), fun e he => ?_⟩
      cases he
      refine ⟨fun S _ _ => by rw [sideNum_kind]; exact Int.le_refl _, [s], by simp, fun x hx => ?_, sideNum_kind _ _ _⟩
      have : x = s := by simpa using hx
      rw [this]; exact q
  | hm n p ih =>
    rw [Wf.many] at wf
    have nd' : p.names.Nodup := by simpa [Fm.names] using nd
    obtain ⟨i1, i2⟩ := ih wf.2.2 nd'
    rw [endless_many, sides_many]
    have hn : (0 : Int) < n := by omega
    refine ⟨fun h => i1 (by simpa using h), fun e he => ?_⟩
    cases q : endless ρ L p with
    | none => rw [q] at he; cases he
    | some x =>
      rw [q] at he
      cases he
      obtain ⟨j1, S, hS, j2, j3⟩ := i2 x q
      refine ⟨fun T hT hL => ?_, S, hS, j2, ?_⟩
      · rw [sideNum_many]
        exact Int.ediv_le_ediv hn (j1 T hT hL)
      · rw [sideNum_many, j3]
  | hn b ps ih =>
    rw [Wf.node] at wf
    have nd' : (namesL ps).Nodup := by simpa [Fm.names] using nd
    have ndp : ∀ p ∈ ps, p.names.Nodup := by
      clear ih wf
      clear nd
      induction ps with
      | nil => intro p hp; cases hp
      | cons q r ihr =>
        obtain ⟨n1, n2, _⟩ := nodup_parts nd'
        intro p hp
        rcases List.mem_cons.mp hp with e | hp
        · rw [e]; exact n1
        · exact ihr n2 p hp
    cases b with
    | true =>
      rw [endless_and, sides_and]
      have inv : ∀ S, S ∈ (ps.map sidesIn).flatten → ∃ p ∈ ps, S ∈ sidesIn p := fun S hS => by
        obtain ⟨l, hl, hS⟩ := List.mem_flatten.mp hS
        obtain ⟨p, hp, e⟩ := List.mem_map.mp hl
        exact ⟨p, hp, by rw [e]; exact hS⟩
      have val : ∀ p ∈ ps, ∀ S ∈ sidesIn p, sideNum ρ S (.node true ps) = sideNum ρ S p := fun p hp S hS => by
        obtain ⟨a, b⟩ := side_in (wf.2 p hp) hS
        rw [sideNum_node]
        exact sideSum_one nd' hp a b
      refine ⟨fun h S hS => ?_, fun e he => ?_⟩
      · obtain ⟨p, hp, hS⟩ := inv S hS
        exact (ih p hp (wf.2 p hp) (ndp p hp)).1 (oMin_none.mp h _ (List.mem_map.mpr ⟨p, hp, rfl⟩)) S hS
      · obtain ⟨h1, h2⟩ := oMin_some he
        refine ⟨fun S hS hL => ?_, ?_⟩
        · obtain ⟨p, hp, hS⟩ := inv S hS
          rw [val p hp S hS]
          cases q : endless ρ L p with
          | none =>
            obtain ⟨s, a, b⟩ := (ih p hp (wf.2 p hp) (ndp p hp)).1 q S hS
            exact absurd b (hL s a)
          | some x => exact Int.le_trans (h2 x (List.mem_map.mpr ⟨p, hp, q⟩)) (((ih p hp (wf.2 p hp) (ndp p hp)).2 x q).1 S hS hL)
        · obtain ⟨p, hp, q⟩ := List.mem_map.mp h1
          obtain ⟨_, S, hS, a, b⟩ := (ih p hp (wf.2 p hp) (ndp p hp)).2 e q
          exact ⟨S, List.mem_flatten.mpr ⟨_, List.mem_map.mpr ⟨p, hp, rfl⟩, hS⟩, a, by rw [val p hp S hS, b]⟩
    | false =>
      rw [endless_or, sides_or]
      have key : ∀ qs : List (Fm α), (∀ q ∈ qs, q ∈ ps) → (namesL qs).Nodup →
          (oSum (qs.map (endless ρ L)) = none → ∀ S ∈ prodAll (qs.map sidesIn), ∃ s ∈ S, s ∈ L) ∧
          (∀ e, oSum (qs.map (endless ρ L)) = some e → (∀ S ∈ prodAll (qs.map sidesIn), (∀ s ∈ S, s ∉ L) → e ≤ sideSum ρ S qs) ∧ ∃ S ∈ prodAll (qs.map sidesIn), (∀ s ∈ S, s ∉ L) ∧ sideSum ρ S qs = e) := by
        intro qs
        induction qs with
        | nil =>
          intro _ _
          refine ⟨fun h => by (cases h), fun e he => ?_⟩
          cases he
          exact ⟨fun S _ _ => Int.le_refl _, [], by simp [prodAll], fun s hs => by (cases hs), rfl⟩
        | cons q r ihr =>
          intro hs hnd
          obtain ⟨n1, n2, n3⟩ := nodup_parts hnd
          have hq := hs q List.mem_cons_self
          obtain ⟨i1, i2⟩ := ih q hq (wf.2 q hq) n1
          obtain ⟨k1, k2⟩ := ihr (fun y hy => hs y (List.mem_cons_of_mem _ hy)) n2
          have wr : ∀ x ∈ r, Wf B x := fun x hx => wf.2 x (hs x (List.mem_cons_of_mem _ hx))
          have inb : ∀ b ∈ prodAll (r.map sidesIn), ∀ s ∈ b, s ∈ namesL r := by
            clear k1 k2 ihr i1 i2
            have gen : ∀ t : List (Fm α), (∀ x ∈ t, Wf B x) → ∀ b ∈ prodAll (t.map sidesIn), ∀ s ∈ b, s ∈ namesL t := by
              intro t
              induction t with
              | nil =>
                intro _ b hb s hsb
                have e : b = [] := by simpa [prodAll] using hb
                rw [e] at hsb
                cases hsb
              | cons x t iht =>
                intro hw b hb s hsb
                rw [List.map_cons, mem_prodAll_cons] at hb
                obtain ⟨c, hc, d, hd, rfl⟩ := hb
                rw [namesL, List.mem_append]
                rcases List.mem_append.mp hsb with z | z
                · exact .inl ((side_in (hw x List.mem_cons_self) hc).2 s z)
                · exact .inr (iht (fun y hy => hw y (List.mem_cons_of_mem _ hy)) d hd s z)
            exact gen r wr
          rw [List.map_cons, List.map_cons]
          refine ⟨fun h S hS => ?_, fun e he => ?_⟩
          · obtain ⟨a, ha, b, hb, rfl⟩ := mem_prodAll_cons.mp hS
            rcases List.mem_cons.mp (oSum_none.mp h) with z | z
            · obtain ⟨s, c, d⟩ := i1 z.symm a ha
              exact ⟨s, by simp [c], d⟩
            · obtain ⟨s, c, d⟩ := k1 (oSum_none.mpr z) b hb
              exact ⟨s, by simp [c], d⟩
          · cases q1 : endless ρ L q with
            | none => rw [q1] at he; cases he
            | some x =>
              rw [q1, oSum_cons] at he
              cases q2 : oSum (r.map (endless ρ L)) with
              | none => rw [q2] at he; cases he
              | some y =>
                rw [q2] at he
                cases he
                obtain ⟨j1, a0, ha0, j2, j3⟩ := i2 x q1
                obtain ⟨l1, b0, hb0, l2, l3⟩ := k2 y q2
                refine ⟨fun S hS hL => ?_, a0 ++ b0, mem_prodAll_cons.mpr ⟨a0, ha0, b0, hb0, rfl⟩, fun s hsm => ?_, ?_⟩
                · obtain ⟨a, ha, b, hb, rfl⟩ := mem_prodAll_cons.mp hS
                  rw [sideSum_prod (wf.2 q hq) wr hnd ha (inb b hb)]
                  have p1 := j1 a ha fun s h => hL s (by simp [h])
                  have p2 := l1 b hb fun s h => hL s (by simp [h])
                  show x + y ≤ _
                  omega
                · rcases List.mem_append.mp hsm with z | z
                  · exact j2 s z
                  · exact l2 s z
                · rw [sideSum_prod (wf.2 q hq) wr hnd ha0 (inb b0 hb0), j3, l3]
      obtain ⟨a, b⟩ := key ps (fun q hq => hq) nd'
      refine ⟨a, fun e he => ?_⟩
      obtain ⟨c, S, hS, d, g⟩ := b e he
      exact ⟨fun T hT hL => by rw [sideNum_node]; exact c T hT hL, S, hS, d, by rw [sideNum_node]; exact g⟩
/-- MORE OF THE KINDS OF A LOT MAKES MORE PIECES EXACTLY IF EACH TIGHT SIDE HAS ONE OF THEM -/
theorem tight_iff {B : Nat} {ρ : α → Int} {L : List α} {f : Fm α} (wf : Wf B f) (nd : f.names.Nodup) :
    (endless ρ L f = none ∨ ∃ e, endless ρ L f = some e ∧ num ρ f < e) ↔ ∀ S ∈ sidesIn f, sideNum ρ S f = num ρ f → ∃ s ∈ S, s ∈ L := by
  obtain ⟨h1, h2⟩ := sides_least (ρ := ρ) (L := L) wf nd
  obtain ⟨g1, g2⟩ := (sides_least (ρ := ρ) (L := []) wf nd).2 _ (endless_nil wf)
  constructor
  · rintro (h | ⟨e, he, lt⟩) S hS q
    · exact h1 h S hS
    · refine Classical.byContradiction fun no => ?_
      have := (h2 e he).1 S hS fun s hs hL => no ⟨s, hs, hL⟩
      omega
  · intro h
    cases q : endless ρ L f with
    | none => exact .inl rfl
    | some e =>
      refine .inr ⟨e, rfl, ?_⟩
      obtain ⟨a, S, hS, b, c⟩ := h2 e q
      have d := g1 S hS fun s _ => List.not_mem_nil
      refine Classical.byContradiction fun no => ?_
      obtain ⟨s, x, y⟩ := h S hS (by omega)
      exact b s x y
end
end K23
set_option autoImplicit false
/-! M5: formulas of cut books; normal formulas. -/
namespace K23
section
variable {α : Type} [DecidableEq α]
/-- what is left of a joint -/
def rejoin (b word : Bool) (many : Nat) (left : List (Fm α)) : Option (Fm α) :=
  if left = [] ∨ (b = word ∧ left.length < many) then none else match left with
    | [x] => some x
    | l => some (.node b l)
mutual
def cut (L : List α) (word : Bool) : Fm α → Option (Fm α)
  | .kind s => if s ∈ L then none else some (.kind s)
  | .many n p => (cut L word p).map (.many n ·)
  | .node b ps => rejoin b word ps.length (cutL L word ps)
def cutL (L : List α) (word : Bool) : List (Fm α) → List (Fm α)
  | [] => []
  | p :: r => match cut L word p with
    | none => cutL L word r
    | some g => g :: cutL L word r
end
theorem cut_kind (L : List α) (word : Bool) (s : α) : cut L word (.kind s) = if s ∈ L then none else some (.kind s) := by rw [cut]
theorem cut_many (L : List α) (word : Bool) (n : Nat) (p : Fm α) : cut L word (.many n p) = (cut L word p).map (.many n ·) := by rw [cut]
theorem cut_node (L : List α) (word : Bool) (b : Bool) (ps : List (Fm α)) : cut L word (.node b ps) = rejoin b word ps.length (cutL L word ps) := by rw [cut]
theorem cutL_eq (L : List α) (word : Bool) (ps : List (Fm α)) : cutL L word ps = ps.filterMap (cut L word) := by
  induction ps with
  | nil => rfl
  | cons p r ih =>
    rw [cutL, List.filterMap_cons, ih]
    cases cut L word p <;> rfl
theorem rejoin_cases {b word : Bool} {many : Nat} {left : List (Fm α)} :
    (rejoin b word many left = none ∧ (left = [] ∨ (b = word ∧ left.length < many))) ∨ (¬ (left = [] ∨ (b = word ∧ left.length < many)) ∧ ((∃ x, left = [x] ∧ rejoin b word many left = some x) ∨ (2 ≤ left.length ∧ rejoin b word many left = some (.node b left)))) := by
  unfold rejoin
  by_cases h : left = [] ∨ (b = word ∧ left.length < many)
  · rw [if_pos h]; exact .inl ⟨rfl, h⟩
  · rw [if_neg h]
    refine .inr ⟨h, ?_⟩
    match left, h with
    | [], h => exact absurd (.inl rfl) h
    | [x], _ => exact .inl ⟨x, rfl, rfl⟩
    | x :: y :: r, _ => exact .inr ⟨by simp, rfl⟩
theorem cut_wf {B : Nat} {L : List α} {word : Bool} {f g : Fm α} (wf : Wf B f) (h : cut L word f = some g) : Wf B g ∧ g.names.Sublist f.names ∧ ∀ s ∈ g.names, s ∉ L := by
  induction f using Fm.ind generalizing B g with
  | hk s =>
    rw [cut_kind] at h
    by_cases q : s ∈ L
    · rw [if_pos q] at h; cases h
    · rw [if_neg q] at h
      cases h
      exact ⟨wf, List.Sublist.refl _, fun x hx => by
        have : x = s := by simpa [Fm.names] using hx
        rw [this]; exact q⟩
  | hm n p ih =>
    rw [Wf.many] at wf
    rw [cut_many] at h
    cases q : cut L word p with
    | none => rw [q] at h; cases h
    | some x =>
      rw [q] at h
      cases h
      obtain ⟨a, b, c⟩ := ih wf.2.2 q
      exact ⟨Wf.many.mpr ⟨wf.1, wf.2.1, a⟩, by simpa [Fm.names] using b, by simpa [Fm.names] using c⟩
  | hn b ps ih =>
    rw [Wf.node] at wf
    rw [cut_node] at h
    have key : ∀ qs : List (Fm α), (∀ q ∈ qs, q ∈ ps) → (∀ x ∈ cutL L word qs, Wf B x) ∧ (namesL (cutL L word qs)).Sublist (namesL qs) ∧ ∀ s ∈ namesL (cutL L word qs), s ∉ L := by
      intro qs
      induction qs with
      | nil => intro _; exact ⟨fun x hx => (by rw [cutL] at hx; cases hx), List.Sublist.refl _, fun s hs => (by rw [cutL, namesL] at hs; cases hs)⟩
      | cons q r ihr =>
        intro hs
        obtain ⟨h1, h2, h3⟩ := ihr fun y hy => hs y (List.mem_cons_of_mem _ hy)
        have hq := hs q List.mem_cons_self
        cases c : cut L word q with
        | none =>
          have e : cutL L word (q :: r) = cutL L word r := by rw [cutL, c]
          rw [e]
          refine ⟨h1, ?_, h3⟩
          rw [namesL]
          exact h2.trans (List.sublist_append_right _ _)
        | some x =>
          have e : cutL L word (q :: r) = x :: cutL L word r := by rw [cutL, c]
          obtain ⟨k1, k2, k3⟩ := ih q hq (wf.2 q hq) c
          rw [e]
          refine ⟨fun y hy => ?_, ?_, fun s hs => ?_⟩
          · rcases List.mem_cons.mp hy with z | z
            · rw [z]; exact k1
            · exact h1 y z
          · rw [namesL, namesL]
            exact List.Sublist.append k2 h2
          · rw [namesL, List.mem_append] at hs
            exact hs.elim (k3 s) (h3 s)
    obtain ⟨h1, h2, h3⟩ := key ps fun q hq => hq
    rcases rejoin_cases (b := b) (word := word) (many := ps.length) (left := cutL L word ps) with ⟨e, _⟩ | ⟨_, ⟨x, e, e2⟩ | ⟨e, e2⟩⟩
    · rw [e] at h; cases h
    · rw [e2] at h
      cases h
      rw [e] at h1 h2 h3
      rw [namesL, namesL, List.append_nil] at h2 h3
      exact ⟨h1 _ List.mem_cons_self, by rw [Fm.names]; exact h2, h3⟩
    · rw [e2] at h
      cases h
      exact ⟨Wf.node.mpr ⟨e, h1⟩, by rw [Fm.names, Fm.names]; exact h2, by rw [Fm.names]; exact h3⟩
theorem filterMap_len {β γ : Type} (f : β → Option γ) : ∀ l : List β, (l.filterMap f).length ≤ l.length ∧ ((l.filterMap f).length < l.length ↔ ∃ x ∈ l, f x = none)
  | [] => ⟨Nat.le_refl _, ⟨fun h => absurd h (Nat.lt_irrefl _), fun ⟨x, hx, _⟩ => by (cases hx)⟩⟩
  | x :: r => by
    obtain ⟨h1, h2⟩ := filterMap_len f r
    rw [List.filterMap_cons]
    cases q : f x with
    | none =>
      refine ⟨by simp only [List.length_cons]; omega, ⟨fun _ => ⟨x, List.mem_cons_self, q⟩, fun _ => by simp only [List.length_cons]; omega⟩⟩
    | some y =>
      simp only [List.length_cons]
      refine ⟨by omega, ⟨fun h => ?_, fun ⟨z, hz, e⟩ => ?_⟩⟩
      · obtain ⟨z, hz, e⟩ := h2.mp (by omega)
        exact ⟨z, List.mem_cons_of_mem _ hz, e⟩
      · rcases List.mem_cons.mp hz with w | hz
        · rw [w, q] at e; cases e
        · have := h2.mpr ⟨z, hz, e⟩
          omega
/-- with always enough of the lot -/
theorem cut_plenty {B : Nat} {ρ : α → Int} {L : List α} {f : Fm α} (wf : Wf B f) : endless ρ L f = (cut L false f).map (num ρ) := by
  induction f using Fm.ind generalizing B with
  | hk s =>
    rw [endless_kind, cut_kind]
    by_cases q : s ∈ L
    · rw [if_pos q, if_pos q]; rfl
    · rw [if_neg q, if_neg q]; show some (ρ s) = some (num ρ (.kind s)); rw [num_kind]
  | hm n p ih =>
    rw [Wf.many] at wf
    rw [endless_many, cut_many, ih wf.2.2]
    cases cut L false p with
    | none => rfl
    | some g => show some (num ρ g / (n : Int)) = some (num ρ (.many n g)); rw [num_many]
  | hn b ps ih =>
    rw [Wf.node] at wf
    rw [cut_node, cutL_eq]
    have e1 : ps.map (endless ρ L) = ps.map fun p => (cut L false p).map (num ρ) := List.map_congr_left fun p hp => ih p hp (wf.2 p hp)
    obtain ⟨f1, f2⟩ := filterMap_len (cut L false) ps
    have known : ∀ k, some k ∈ ps.map (endless ρ L) ↔ k ∈ (ps.filterMap (cut L false)).map (num ρ) := fun k => by
      rw [e1, List.mem_map, List.mem_map]
      constructor
      · rintro ⟨p, hp, e⟩
        cases q : cut L false p with
        | none => rw [q] at e; cases e
        | some g => rw [q] at e; exact ⟨g, List.mem_filterMap.mpr ⟨p, hp, q⟩, Option.some.inj e⟩
      · rintro ⟨g, hg, e⟩
        obtain ⟨p, hp, q⟩ := List.mem_filterMap.mp hg
        exact ⟨p, hp, by rw [q, ← e]; rfl⟩
    cases b with
    | true =>
      rw [endless_and]
      rcases rejoin_cases (b := true) (word := false) (many := ps.length) (left := ps.filterMap (cut L false)) with ⟨e, h⟩ | ⟨h, h'⟩
      · rw [e]
        show _ = none
        rw [oMin_none]
        intro x hx
        cases x with
        | none => rfl
        | some k =>
          have z := (known k).mp hx
          rcases h with h | ⟨h, _⟩
          · rw [h] at z; cases z
          · cases h
      · have ne : ps.filterMap (cut L false) ≠ [] := fun e => h (.inl e)
        have ne' : (ps.filterMap (cut L false)).map (num ρ) ≠ [] := fun e => ne (by simpa using e)
        have em : oMin (ps.map (endless ρ L)) = some (lmin ((ps.filterMap (cut L false)).map (num ρ))) :=
          oMin_is ((known _).mpr (lmin_mem ne')) fun k hk => lmin_le ((known k).mp hk)
        rw [em]
        rcases h' with ⟨x, e, e2⟩ | ⟨_, e2⟩
        · rw [e2, e]; rfl
        · rw [e2]; show _ = some (num ρ (.node true _)); rw [num_and]
    | false =>
      rw [endless_or]
      rcases rejoin_cases (b := false) (word := false) (many := ps.length) (left := ps.filterMap (cut L false)) with ⟨e, h⟩ | ⟨h, h'⟩
      · rw [e]
        show _ = none
        rw [oSum_none, e1, List.mem_map]
        rcases h with h | ⟨_, h⟩
        · match ps, wf, h with
          | p :: r, _, h =>
            refine ⟨p, List.mem_cons_self, ?_⟩
            cases q : cut L false p with
            | none => rfl
            | some g => rw [List.filterMap_cons, q] at h; cases h
        · obtain ⟨p, hp, q⟩ := f2.mp h
          exact ⟨p, hp, by rw [q]; rfl⟩
      · have all : ∀ p ∈ ps, ∃ g, cut L false p = some g := fun p hp => by
          cases q : cut L false p with
          | none => exact absurd (.inr ⟨rfl, f2.mpr ⟨p, hp, q⟩⟩) h
          | some g => exact ⟨g, rfl⟩
        have es : ps.map (endless ρ L) = ((ps.filterMap (cut L false)).map (num ρ)).map some := by
          rw [e1]
          clear e1 f1 f2 known h h' ih wf
          induction ps with
          | nil => rfl
          | cons p r ihr =>
            obtain ⟨g, q⟩ := all p List.mem_cons_self
            rw [List.map_cons, List.filterMap_cons, q, List.map_cons, List.map_cons, ihr fun y hy => all y (List.mem_cons_of_mem _ hy)]
            rfl
        rw [es, oSum_map]
        rcases h' with ⟨x, e, e2⟩ | ⟨_, e2⟩
        · rw [e2, e]
          show some ((num ρ x) + 0) = some (num ρ x)
          simp
        · rw [e2]; show _ = some (num ρ (.node false _)); rw [num_or]
/-- nothing of a lot -/
def noneOf (ρ : α → Int) (L : List α) : α → Int := fun s => if s ∈ L then 0 else ρ s
theorem cut_lacking {B : Nat} {ρ : α → Int} {L : List α} {f : Fm α} (wf : Wf B f) (h0 : ∀ s ∈ f.names, 0 ≤ ρ s) : num (noneOf ρ L) f = match cut L true f with
    | none => 0
    | some g => num ρ g := by
  have nn : ∀ {f : Fm α}, (∀ s ∈ f.names, 0 ≤ ρ s) → ∀ s ∈ f.names, 0 ≤ noneOf ρ L s := fun {f} h s hs => by
    unfold noneOf
    split
    · exact Int.le_refl 0
    · exact h s hs
  induction f using Fm.ind generalizing B with
  | hk s =>
    rw [num_kind, cut_kind]
    unfold noneOf
    by_cases q : s ∈ L
    · rw [if_pos q, if_pos q]
    · rw [if_neg q, if_neg q]; show ρ s = num ρ (.kind s); rw [num_kind]
  | hm n p ih =>
    rw [Wf.many] at wf
    have h := ih wf.2.2 (by simpa [Fm.names] using h0)
    rw [num_many, cut_many, h]
    cases cut L true p with
    | none => exact Int.zero_ediv _
    | some g => show num ρ g / (n : Int) = num ρ (.many n g); rw [num_many]
  | hn b ps ih =>
    rw [Wf.node] at wf
    rw [cut_node, cutL_eq]
    have ihp : ∀ p ∈ ps, num (noneOf ρ L) p = match cut L true p with
        | none => 0
        | some g => num ρ g := fun p hp => ih p hp (wf.2 p hp) fun s hs => h0 s (mem_part hp hs)
    have pos : ∀ p ∈ ps, 0 ≤ num (noneOf ρ L) p := fun p hp => num_nonneg (wf.2 p hp) (nn fun s hs => h0 s (mem_part hp hs))
    obtain ⟨f1, f2⟩ := filterMap_len (cut L true) ps
    have ne0 : ps.map (num (noneOf ρ L)) ≠ [] := fun e => by
      have e2 : ps = [] := by simpa using e
      rw [e2] at wf
      simp at wf
    have sumE : (ps.map (num (noneOf ρ L))).sum = ((ps.filterMap (cut L true)).map (num ρ)).sum := by
      clear f1 f2 ne0 pos ih wf
      clear h0
      induction ps with
      | nil => rfl
      | cons p r ihr =>
        have a := ihp p List.mem_cons_self
        have b := ihr fun y hy => ihp y (List.mem_cons_of_mem _ hy)
        rw [List.map_cons, List.sum_cons, b, a, List.filterMap_cons]
        cases cut L true p with
        | none => simp
        | some g => simp
    cases b with
    | true =>
      rw [num_and]
      rcases rejoin_cases (b := true) (word := true) (many := ps.length) (left := ps.filterMap (cut L true)) with ⟨e, h⟩ | ⟨h, h'⟩
      · rw [e]
        show _ = (0 : Int)
        have ex : ∃ p ∈ ps, cut L true p = none := by
          rcases h with h | ⟨_, h⟩
          · match ps, wf, h with
            | p :: r, _, h =>
              refine ⟨p, List.mem_cons_self, ?_⟩
              cases q : cut L true p with
              | none => rfl
              | some g => rw [List.filterMap_cons, q] at h; cases h
          · exact f2.mp h
        obtain ⟨p, hp, q⟩ := ex
        refine (lmin_unique ?_ ?_).symm
        · exact List.mem_map.mpr ⟨p, hp, by rw [ihp p hp, q]⟩
        · intro k hk
          obtain ⟨p', hp', e'⟩ := List.mem_map.mp hk
          rw [← e']
          exact pos p' hp'
      · have all : ∀ p ∈ ps, ∃ g, cut L true p = some g := fun p hp => by
          cases q : cut L true p with
          | none => exact absurd (.inr ⟨rfl, f2.mpr ⟨p, hp, q⟩⟩) h
          | some g => exact ⟨g, rfl⟩
        have es : ps.map (num (noneOf ρ L)) = (ps.filterMap (cut L true)).map (num ρ) := by
          clear f1 f2 h h' ih wf sumE pos ne0
          clear h0
          induction ps with
          | nil => rfl
          | cons p r ihr =>
            obtain ⟨g, q⟩ := all p List.mem_cons_self
            have a := ihp p List.mem_cons_self
            rw [q] at a
            rw [List.map_cons, List.filterMap_cons, q, List.map_cons, ihr (fun y hy => ihp y (List.mem_cons_of_mem _ hy)) fun y hy => all y (List.mem_cons_of_mem _ hy), a]
        rw [es]
        rcases h' with ⟨x, e, e2⟩ | ⟨_, e2⟩
        · rw [e2, e]; rfl
        · rw [e2]; show _ = num ρ (.node true _); rw [num_and]
    | false =>
      rw [num_or, sumE]
      rcases rejoin_cases (b := false) (word := true) (many := ps.length) (left := ps.filterMap (cut L true)) with ⟨e, h⟩ | ⟨h, h'⟩
      · rw [e]
        rcases h with h | ⟨h, _⟩
        · rw [h]; rfl
        · cases h
      · rcases h' with ⟨x, e, e2⟩ | ⟨_, e2⟩
        · rw [e2, e]
          show num ρ x + 0 = num ρ x
          omega
        · rw [e2]; show _ = num ρ (.node false _); rw [num_or]

/-! ### normal formulas -/
mutual
def nodes : Fm α → Nat
  | .kind _ => 1
  | .many _ p => nodes p + 1
  | .node _ ps => nodesL ps + 1
def nodesL : List (Fm α) → Nat
  | [] => 0
  | p :: r => nodes p + nodesL r
end
theorem nodes_kind (s : α) : nodes (.kind s) = 1 := by rw [nodes]
theorem nodes_many (n : Nat) (p : Fm α) : nodes (.many n p) = nodes p + 1 := by rw [nodes]
theorem nodes_node (b : Bool) (ps : List (Fm α)) : nodes (.node b ps) = nodesL ps + 1 := by rw [nodes]
theorem nodesL_eq (ps : List (Fm α)) : nodesL ps = (ps.map nodes).sum := by
  induction ps with
  | nil => rfl
  | cons p r ih => rw [nodesL, ih, List.map_cons, List.sum_cons]
theorem natsum_perm {l l' : List Nat} (h : l.Perm l') : l.sum = l'.sum := by
  induction h with
  | nil => rfl
  | cons x _ ih => rw [List.sum_cons, List.sum_cons, ih]
  | swap x y l => simp only [List.sum_cons]; omega
  | trans _ _ a b => exact a.trans b
mutual
def depth : Fm α → Nat
  | .kind _ => 0
  | .many _ p => depth p + 1
  | .node _ ps => depthL ps + 1
def depthL : List (Fm α) → Nat
  | [] => 0
  | p :: r => max (depth p) (depthL r)
end
theorem depth_kind (s : α) : depth (.kind s) = 0 := by rw [depth]
theorem depth_many (n : Nat) (p : Fm α) : depth (.many n p) = depth p + 1 := by rw [depth]
theorem depth_node (b : Bool) (ps : List (Fm α)) : depth (.node b ps) = depthL ps + 1 := by rw [depth]
theorem depth_part {ps : List (Fm α)} {p : Fm α} (h : p ∈ ps) : depth p ≤ depthL ps := by
  induction ps with
  | nil => cases h
  | cons q r ih =>
    rw [depthL]
    rcases List.mem_cons.mp h with e | h
    · rw [e]; omega
    · have := ih h; omega
theorem depthL_le {ps : List (Fm α)} {n : Nat} (h : ∀ p ∈ ps, depth p ≤ n) : depthL ps ≤ n := by
  induction ps with
  | nil => rw [depthL]; omega
  | cons q r ih =>
    rw [depthL]
    have := h q List.mem_cons_self
    have := ih fun y hy => h y (List.mem_cons_of_mem _ hy)
    omega
theorem depth_le_nodes (f : Fm α) : depth f ≤ nodes f := by
  induction f using Fm.ind with
  | hk s => rw [depth_kind, nodes_kind]; omega
  | hm n p ih => rw [depth_many, nodes_many]; omega
  | hn b ps ih =>
    rw [depth_node, nodes_node]
    have : depthL ps ≤ nodesL ps := by
      clear b
      induction ps with
      | nil => rw [depthL]; omega
      | cons q r ihr =>
        rw [depthL, nodesL]
        have := ih q List.mem_cons_self
        have := ihr fun y hy => ih y (List.mem_cons_of_mem _ hy)
        omega
    omega
/-- the parts that a part gives to a joint -/
def kids (b : Bool) : Fm α → List (Fm α)
  | .node c qs => if c = b then qs else [.node c qs]
  | f => [f]
def isMany : Fm α → Bool
  | .many _ _ => true
  | _ => false
structure Nrm (B m : Nat) (f g : Fm α) : Prop where
  val : ∀ ρ : α → Int, num ρ g = num ρ f / (m : Int)
  perm : g.names.Perm f.names
  wf : Wf B g
  few : nodes g + 2 ≤ 4 * f.names.length
  fewer : isMany g = false → nodes g + 3 ≤ 4 * f.names.length
theorem kids_node (b c : Bool) (qs : List (Fm α)) : kids b (.node c qs) = if c = b then qs else [.node c qs] := rfl
theorem names_kids (b : Bool) (g : Fm α) : namesL (kids b g) = g.names := by
  cases g with
  | kind s => show namesL [.kind s] = _; rw [namesL, namesL, List.append_nil]
  | many n p => show namesL [.many n p] = _; rw [namesL, namesL, List.append_nil]
  | node c qs =>
    rw [kids_node]
    split
    · rw [Fm.names]
    · rw [namesL, namesL, List.append_nil]
theorem nodes_kids (b : Bool) (g : Fm α) : nodesL (kids b g) ≤ nodes g := by
  cases g with
  | kind s => show nodesL [.kind s] ≤ _; rw [nodesL, nodesL]; omega
  | many n p => show nodesL [.many n p] ≤ _; rw [nodesL, nodesL]; omega
  | node c qs =>
    rw [kids_node]
    split
    · rw [nodes_node]; omega
    · rw [nodesL, nodesL]; omega
theorem wf_kids {B : Nat} {b : Bool} {g : Fm α} (h : Wf B g) : (∀ x ∈ kids b g, Wf B x) ∧ 1 ≤ (kids b g).length := by
  cases g with
  | kind s => exact ⟨fun x hx => by have e : x = .kind s := by simpa [kids] using hx
                                    rw [e]; exact h, by simp [kids]⟩
  | many n p => exact ⟨fun x hx => by have e : x = .many n p := by simpa [kids] using hx
                                      rw [e]; exact h, by simp [kids]⟩
  | node c qs =>
    rw [kids_node]
    split
    · rw [Wf.node] at h; exact ⟨h.2, by omega⟩
    · exact ⟨fun x hx => by have e : x = .node c qs := by simpa using hx
                            rw [e]; exact h, by simp⟩
theorem lmin_append {l r : List Int} (hl : l ≠ []) (hr : r ≠ []) : lmin (l ++ r) = min (lmin l) (lmin r) := by
  refine (lmin_unique ?_ ?_).symm
  · rcases Int.le_total (lmin l) (lmin r) with q | q
    · rw [Int.min_eq_left q]; exact List.mem_append_left _ (lmin_mem hl)
    · rw [Int.min_eq_right q]; exact List.mem_append_right _ (lmin_mem hr)
  · intro k hk
    rcases List.mem_append.mp hk with z | z
    · exact Int.le_trans (Int.min_le_left _ _) (lmin_le z)
    · exact Int.le_trans (Int.min_le_right _ _) (lmin_le z)
theorem kids_ne {b : Bool} {B : Nat} {g : Fm α} (h : Wf B g) : kids b g ≠ [] := fun e => by have := (wf_kids (b := b) h).2; rw [e] at this; simp at this
theorem min_kids {B : Nat} {ρ : α → Int} {g : Fm α} (h : Wf B g) : lmin ((kids true g).map (num ρ)) = num ρ g := by
  cases g with
  | kind s => rfl
  | many n p => rfl
  | node c qs =>
    rw [kids_node]
    cases c with
    | true => rw [if_pos rfl, num_and]
    | false => rw [if_neg (by decide)]; rfl
theorem sum_kids {ρ : α → Int} {g : Fm α} : ((kids false g).map (num ρ)).sum = num ρ g := by
  cases g with
  | kind s => show num ρ (.kind s) + 0 = _; omega
  | many n p => show num ρ (.many n p) + 0 = _; omega
  | node c qs =>
    rw [kids_node]
    cases c with
    | true => rw [if_neg (by decide)]; show num ρ (.node true qs) + 0 = _; omega
    | false => rw [if_pos rfl, num_or]
theorem ediv_min {a b : Int} {n : Nat} (hn : 0 < n) : min (a / (n : Int)) (b / (n : Int)) = min a b / (n : Int) := by
  have hn' : (0 : Int) < n := by omega
  rcases Int.le_total a b with q | q
  · rw [Int.min_eq_left q, Int.min_eq_left (Int.ediv_le_ediv hn' q)]
  · rw [Int.min_eq_right q, Int.min_eq_right (Int.ediv_le_ediv hn' q)]
/-- parts paired with their normal formulas -/
inductive Nrms (B m : Nat) : List (Fm α) → List (Fm α) → Prop
  | nil : Nrms B m [] []
  | cons {p g : Fm α} {ps gs : List (Fm α)} : Nrm B m p g → Nrms B m ps gs → Nrms B m (p :: ps) (g :: gs)
theorem Nrms.length {B m : Nat} {ps gs : List (Fm α)} (h : Nrms B m ps gs) : ps.length = gs.length := by
  induction h with
  | nil => rfl
  | cons _ _ ih => rw [List.length_cons, List.length_cons, ih]
/-- what all of them have in common -/
theorem joined_nrm {B m : Nat} {b : Bool} {ps gs hs : List (Fm α)} (hm : 0 < m) (h2 : 2 ≤ ps.length) (h : Nrms B m ps gs) (hp : hs.Perm (gs.flatMap (kids b))) :
    ((Fm.node b hs).names.Perm (namesL ps)) ∧ Wf B (.node b hs) ∧ nodes (.node b hs) + 3 ≤ 4 * (namesL ps).length ∧
    (b = true → ∀ ρ : α → Int, num ρ (.node b hs) = lmin (ps.map (num ρ)) / (m : Int)) ∧ (b = false → m = 1 → ∀ ρ : α → Int, num ρ (.node b hs) = (ps.map (num ρ)).sum) := by
  have nP : (namesL hs).Perm (namesL (gs.flatMap (kids b))) := by
    rw [namesL_eq, namesL_eq]; exact hp.flatMap_right _
  have kN : (namesL (gs.flatMap (kids b))).Perm (namesL ps) := by
    clear nP hp h2
    induction h with
    | nil => exact List.Perm.refl _
    | cons a _ ih =>
      rename_i p g ps gs
      rw [List.flatMap_cons, namesL_eq, List.flatMap_append, ← namesL_eq, ← namesL_eq, names_kids, namesL]
      exact a.perm.append ih
  have gw : ∀ g ∈ gs, Wf B g := by
    clear nP kN hp h2
    induction h with
    | nil => intro g hg; cases hg
    | cons a _ ih =>
      intro g hg
      rcases List.mem_cons.mp hg with e | hg
      · rw [e]; exact a.wf
      · exact ih g hg
  have nd : nodesL hs + 2 * ps.length ≤ 4 * (namesL ps).length := by
    have e : nodesL hs = nodesL (gs.flatMap (kids b)) := by rw [nodesL_eq, nodesL_eq]; exact natsum_perm (hp.map nodes)
    rw [e]
    clear e nP kN hp h2 gw
    induction h with
    | nil => exact Nat.le_refl _
    | cons a _ ih =>
      rename_i p g ps gs _
      have e : nodesL (kids b g ++ gs.flatMap (kids b)) = nodesL (kids b g) + nodesL (gs.flatMap (kids b)) := by
        rw [nodesL_eq, nodesL_eq, nodesL_eq, List.map_append, List.sum_append]
      rw [List.flatMap_cons, e, namesL, List.length_append, List.length_cons]
      have := nodes_kids b g
      have := a.few
      omega
  have wl : 2 ≤ hs.length := by
    rw [hp.length_eq]
    have : ∀ l : List (Fm α), (∀ g ∈ l, Wf B g) → l.length ≤ (l.flatMap (kids b)).length := by
      intro l
      induction l with
      | nil => intro _; exact Nat.le_refl _
      | cons g r ih =>
        intro hw
        rw [List.flatMap_cons, List.length_append, List.length_cons]
        have := (wf_kids (b := b) (hw g List.mem_cons_self)).2
        have := ih fun y hy => hw y (List.mem_cons_of_mem _ hy)
        omega
    have := this gs gw
    have := h.length
    omega
  refine ⟨by rw [Fm.names]; exact nP.trans kN, Wf.node.mpr ⟨wl, fun x hx => ?_⟩, by rw [nodes_node]; omega, fun hb ρ => ?_, fun hb h1 ρ => ?_⟩
  · obtain ⟨g, hg, hx⟩ := List.mem_flatMap.mp (hp.mem_iff.mp hx)
    exact (wf_kids (gw g hg)).1 x hx
  · subst hb
    rw [num_and, lmin_perm (hp.map (num ρ))]
    have key : ∀ {ps gs : List (Fm α)}, Nrms B m ps gs → ps ≠ [] → lmin ((gs.flatMap (kids true)).map (num ρ)) = lmin (ps.map (num ρ)) / (m : Int) := by
      intro ps gs h
      induction h with
      | nil => intro z; exact absurd rfl z
      | cons a t ih =>
        rename_i p g ps gs
        intro _
        rw [List.flatMap_cons, List.map_append, List.map_cons]
        by_cases z : ps = []
        · subst z
          cases t
          rw [List.flatMap_nil, List.map_nil, List.append_nil, min_kids a.wf, a.val ρ]
          rfl
        · have ne1 : (kids true g).map (num ρ) ≠ [] := fun e => kids_ne (b := true) a.wf (by simpa using e)
          have zg : gs ≠ [] := fun e => z (by have := t.length; rw [e] at this; exact List.eq_nil_of_length_eq_zero this)
          have ne2 : (gs.flatMap (kids true)).map (num ρ) ≠ [] := by
            match gs, zg, t with
            | x :: y, _, .cons c _ =>
              intro e
              rw [List.flatMap_cons] at e
              have : kids true x = [] := by
                have e2 : kids true x ++ y.flatMap (kids true) = [] := by simpa using e
                exact (List.append_eq_nil_iff.mp e2).1
              exact kids_ne c.wf this
          have ne3 : ps.map (num ρ) ≠ [] := fun e => z (by simpa using e)
          rw [lmin_append ne1 ne2, min_kids a.wf, ih z, a.val ρ, lmin_cons ne3, ediv_min hm]
    exact key h fun e => by rw [e] at h2; simp at h2
  · subst hb
    subst h1
    rw [num_or, sum_perm (hp.map (num ρ))]
    clear nP kN nd wl gw hp h2
    induction h with
    | nil => rfl
    | cons a _ ih =>
      rename_i p g ps gs _
      rw [List.flatMap_cons, List.map_append, List.sum_append, ih, sum_kids, a.val ρ, List.map_cons, List.sum_cons]
      simp
theorem nrm_and {B m : Nat} {ps gs hs : List (Fm α)} (hm : 0 < m) (h2 : 2 ≤ ps.length) (h : Nrms B m ps gs) (hp : hs.Perm (gs.flatMap (kids true))) : Nrm B m (.node true ps) (.node true hs) := by
  obtain ⟨a, b, c, d, _⟩ := joined_nrm hm h2 h hp
  exact ⟨fun ρ => by rw [d rfl ρ, num_and], by rw [Fm.names] at a ⊢; exact a, b, by rw [Fm.names]; omega, fun _ => by rw [Fm.names]; exact c⟩
/-- so many of a formula that is no "many" -/
theorem nrm_many {B m : Nat} {f g : Fm α} (hm : 1 < m) (hB : m ≤ B) (h : Nrm (B / m) 1 f g) (hg : isMany g = false) : Nrm B m f (.many m g) :=
  ⟨fun ρ => by rw [num_many, h.val ρ]; simp, by simpa [Fm.names] using h.perm, Wf.many.mpr ⟨hm, hB, h.wf⟩, by rw [nodes_many]; have := h.fewer hg; omega, fun e => by cases e⟩
theorem nrm_or {B : Nat} {ps gs hs : List (Fm α)} (h2 : 2 ≤ ps.length) (h : Nrms B 1 ps gs) (hp : hs.Perm (gs.flatMap (kids false))) : Nrm B 1 (.node false ps) (.node false hs) := by
  obtain ⟨a, b, c, _, d⟩ := joined_nrm (by decide) h2 h hp
  exact ⟨fun ρ => by rw [d rfl rfl ρ, num_or]; simp, by rw [Fm.names] at a ⊢; exact a, b, by rw [Fm.names]; omega, fun _ => by rw [Fm.names]; exact c⟩
theorem nrm_kind {B : Nat} {s : α} (hB : 1 ≤ B) : Nrm B 1 (.kind s) (.kind s) :=
  ⟨fun ρ => by simp, List.Perm.refl _, Wf.kind.mpr hB, by rw [nodes_kind]; simp [Fm.names], fun _ => by rw [nodes_kind]; simp [Fm.names]⟩
theorem nrm_of_many {B m n : Nat} {p g : Fm α} (h : Nrm B (m * n) p g) : Nrm B m (.many n p) g :=
  ⟨fun ρ => by rw [h.val ρ, num_many, Int.ediv_ediv_of_nonneg (Int.natCast_nonneg n), Int.natCast_mul, Int.mul_comm], by simpa [Fm.names] using h.perm, h.wf, by simpa [Fm.names] using h.few, fun e => by simpa [Fm.names] using h.fewer e⟩
end
end K23
set_option autoImplicit false
/-! M6: the law's own run: each way in turn as often as it fits. -/
namespace K23
section
variable {α : Type} [DecidableEq α]
/-- the quotients of those amounts that a way uses -/
def quots : List Int → List Int → List Int
  | w :: ws, r :: rs => if 0 < w then (r / w) :: quots ws rs else quots ws rs
  | _, _ => []
def less (here : Int) : List Int → List Int → List Int
  | w :: ws, r :: rs => (r - here * w) :: less here ws rs
  | _, _ => []
def taken (most : Int) : List (List Int) → List Int → Int → Int × List Int
  | [], rest, many => (many, rest)
  | w :: ws, rest, many => taken most ws (less (lmin ((most - many) :: quots w rest)) w rest) (many + lmin ((most - many) :: quots w rest))
theorem quots_map (w ρ : α → Int) (K : List α) : quots (K.map w) (K.map ρ) = (K.filter fun s => decide (0 < w s)).map fun s => ρ s / w s := by
  induction K with
  | nil => rfl
  | cons s r ih =>
    rw [List.map_cons, List.map_cons, quots, List.filter_cons]
    by_cases h : 0 < w s
    · rw [if_pos h, if_pos (by simpa using h), List.map_cons, ih]
    · rw [if_neg h, if_neg (by simpa using h), ih]
theorem less_map (here : Int) (w ρ : α → Int) (K : List α) : less here (K.map w) (K.map ρ) = K.map fun s => ρ s - here * w s := by
  induction K with
  | nil => rfl
  | cons s r ih => rw [List.map_cons, List.map_cons, less, ih, List.map_cons]
/-- a way taken so many times -/
theorem fall_many {f : Fm α} {w : α → Int} {ρ : α → Int} {L : List α} {B : Nat} (wf : Wf B f) (nd : f.names.Nodup) (h : Way f w) (k : Nat) : endless (fun s => ρ s - (k : Int) * w s) L f = (endless ρ L f).map (· - (k : Int)) := by
  induction k with
  | zero =>
    rw [endless_congr (ρ' := ρ) fun s _ _ => by simp]
    cases endless ρ L f <;> simp
  | succ k ih =>
    rw [endless_congr (ρ' := fun s => (fun s => ρ s - (k : Int) * w s) s - w s) fun s _ _ => by
      show ρ s - ((k + 1 : Nat) : Int) * w s = ρ s - (k : Int) * w s - w s
      rw [Int.natCast_succ, Int.add_mul]; omega, fall wf nd h, ih]
    cases endless ρ L f with
    | none => rfl
    | some x => show some (x - (k : Int) - 1) = some (x - ((k + 1 : Nat) : Int)); congr 1; omega
/-- THE RUN THAT TAKES EACH WAY IN TURN AS OFTEN AS IT FITS -/
theorem taken_is {f : Fm α} {L K : List α} {B : Nat} {V : List (List Int)} {most : Int} {ρ : α → Int} {e : Int} (wf : Wf B f) (nd : f.names.Nodup) (hK : ∀ s, s ∈ K ↔ s ∈ f.names ∧ s ∉ L)
    (hV : ∀ v ∈ V, ∃ w, Way f w ∧ v = K.map w) (hall : ∀ w, Way f w → K.map w ∈ V) (h0 : ∀ s ∈ K, 0 ≤ ρ s) (he : endless ρ L f = some e) (hm : e ≤ most) : (taken most V (K.map ρ) 0).1 = e := by
  have fitsK : ∀ {ρ : α → Int} {w : α → Int}, Fits ρ L f w ↔ ∀ s ∈ K, w s ≤ ρ s := fun {ρ w} =>
    ⟨fun h s hs => h s ((hK s).mp hs).1 ((hK s).mp hs).2, fun h s h1 h2 => h s ((hK s).mpr ⟨h1, h2⟩)⟩
  have key : ∀ (V : List (List Int)) (ρ : α → Int) (many x : Int), (∀ v ∈ V, ∃ w, Way f w ∧ v = K.map w) → (∀ s ∈ K, 0 ≤ ρ s) → endless ρ L f = some x → many + x = e →
      (∀ w, Way f w → Fits ρ L f w → K.map w ∈ V) → (taken most V (K.map ρ) many).1 = e := by
    intro V
    induction V with
    | nil =>
      intro ρ many x _ h0 hx hs hfit
      show many = e
      have x0 : 0 ≤ x := endless_nonneg (fun s h1 h2 => h0 s ((hK s).mpr ⟨h1, h2⟩)) hx
      by_cases z : 1 ≤ x
      · obtain ⟨w, hw, fw⟩ := fit (ρ := ρ) (L := L) wf nd (fun s h1 h2 => h0 s ((hK s).mpr ⟨h1, h2⟩)) fun y hy => by rw [hx] at hy; cases hy; exact z
        have := hfit w hw fw
        cases this
      · omega
    | cons v V ih =>
      intro ρ many x hV h0 hx hs hfit
      obtain ⟨w, hw, rfl⟩ := hV v List.mem_cons_self
      rw [taken, less_map, quots_map]
      have x0 : 0 ≤ x := endless_nonneg (fun s h1 h2 => h0 s ((hK s).mpr ⟨h1, h2⟩)) hx
      obtain ⟨s0, n0, nL0, p0⟩ := no_free_way wf nd hx hw
      generalize hl : (most - many) :: (K.filter fun s => decide (0 < w s)).map (fun s => ρ s / w s) = l
      have ne : l ≠ [] := by rw [← hl]; simp
      have hmem := lmin_mem ne
      generalize hh : lmin l = here at hmem ⊢
      have hle : ∀ k ∈ l, here ≤ k := fun k hk => by rw [← hh]; exact lmin_le hk
      have here0 : 0 ≤ here := by
        rw [← hl] at hmem
        rcases List.mem_cons.mp hmem with q | q
        · omega
        · obtain ⟨s, hs', e'⟩ := List.mem_map.mp q
          have hsf := List.mem_filter.mp hs'
          have : 0 < w s := by simpa using hsf.2
          rw [← e']
          exact Int.ediv_nonneg (h0 s hsf.1) (by omega)
      have fits_here : ∀ s ∈ K, here * w s ≤ ρ s := fun s hsK => by
        have wn := way_nonneg hw s
        by_cases z : 0 < w s
        · have : here ≤ ρ s / w s := hle _ (by rw [← hl]; exact List.mem_cons_of_mem _ (List.mem_map.mpr ⟨s, List.mem_filter.mpr ⟨hsK, by simpa using z⟩, rfl⟩))
          exact (Int.le_ediv_iff_mul_le z).mp this
        · have : w s = 0 := by omega
          rw [this, Int.mul_zero]
          exact h0 s hsK
      obtain ⟨k, hk⟩ : ∃ k : Nat, here = (k : Int) := ⟨here.toNat, by omega⟩
      have h0' : ∀ s ∈ K, 0 ≤ ρ s - here * w s := fun s hsK => by have := fits_here s hsK; omega
      have hx' : endless (fun s => ρ s - here * w s) L f = some (x - here) := by
        rw [hk, fall_many wf nd hw k, hx]; rfl
      have xh : 0 ≤ x - here := endless_nonneg (fun s h1 h2 => h0' s ((hK s).mpr ⟨h1, h2⟩)) hx'
      refine ih (fun s => ρ s - here * w s) (many + here) (x - here) (fun u hu => hV u (List.mem_cons_of_mem _ hu)) h0' hx' (by omega) fun u hu fu => ?_
      have fu0 : Fits ρ L f u := fitsK.mpr fun s hsK => by
        have a := fitsK.mp fu s hsK
        have b : 0 ≤ here * w s := Int.mul_nonneg here0 (way_nonneg hw s)
        have a' : u s ≤ ρ s - here * w s := a
        omega
      rcases List.mem_cons.mp (hfit u hu fu0) with q | q
      · -- the way itself no longer fits
        exfalso
        have ue : ∀ s ∈ K, u s = w s := fun s hsK => by
          have := List.map_inj_left.mp q s hsK
          exact this
        rw [← hl] at hmem
        rcases List.mem_cons.mp hmem with z | z
        · -- the number came to its end
          have e1 := fall (ρ := fun s => ρ s - here * w s) (L := L) wf nd hu
          rw [hx'] at e1
          have e2 : endless (fun s => (fun s => ρ s - here * w s) s - u s) L f = some (x - here - 1) := e1
          have := endless_nonneg (fun s h1 h2 => by
            have a := fu s h1 h2
            have a' : u s ≤ ρ s - here * w s := a
            show 0 ≤ ρ s - here * w s - u s
            omega) e2
          omega
        · obtain ⟨s, hs', e'⟩ := List.mem_map.mp z
          have hsf := List.mem_filter.mp hs'
          have p : 0 < w s := by simpa using hsf.2
          have a := fitsK.mp fu s hsf.1
          have a' : u s ≤ ρ s - here * w s := a
          rw [ue s hsf.1] at a'
          have m := Int.lt_ediv_add_one_mul_self (ρ s) p
          rw [e', Int.add_mul] at m
          omega
      · exact q
  exact key V ρ 0 e hV h0 he (by omega) fun w hw _ => hall w hw
end
end K23
set_option autoImplicit false
/-! M7: how many ways there are: fewer than 64. -/
namespace K23
section
variable {α : Type} [DecidableEq α]
/-- numbers of lots of n out of w, equal ones too -/
def mcUp (g : Nat → Nat) : Nat → Nat
  | 0 => 1
  | n + 1 => mcUp g n + g (n + 1)
def mc : Nat → Nat → Nat
  | 0 => fun n => if n = 0 then 1 else 0
  | w + 1 => mcUp (mc w)
theorem mc_z (w : Nat) : mc w 0 = 1 := by cases w <;> rfl
theorem mc_s (n : Nat) : mc 0 (n + 1) = 0 := rfl
theorem mc_ss (w n : Nat) : mc (w + 1) (n + 1) = mc (w + 1) n + mc w (n + 1) := rfl
theorem mc_mono : ∀ (n : Nat) {w w' : Nat}, w ≤ w' → mc w n ≤ mc w' n
  | 0, w, w', _ => by rw [mc_z, mc_z]; exact Nat.le_refl _
  | n + 1, 0, w', _ => by rw [mc_s]; exact Nat.zero_le _
  | n + 1, w + 1, 0, h => by omega
  | n + 1, w + 1, w' + 1, h => by
    rw [mc_ss, mc_ss]
    exact Nat.add_le_add (mc_mono n h) (mc_mono (n + 1) (by omega))
def addF (v u : α → Int) : α → Int := fun s => v s + u s
def msum : Nat → List (α → Int) → List (α → Int)
  | 0, _ => [fun _ => 0]
  | _ + 1, [] => []
  | n + 1, v :: vs => (msum n (v :: vs)).map (addF v) ++ msum (n + 1) vs
theorem msum_len : ∀ (n : Nat) (vs : List (α → Int)), (msum n vs).length = mc vs.length n
  | 0, vs => by rw [msum, mc_z]; rfl
  | n + 1, [] => by rw [msum, List.length_nil, mc_s]
  | n + 1, v :: vs => by
    rw [msum, List.length_append, List.length_map, msum_len n (v :: vs), msum_len (n + 1) vs, List.length_cons, mc_ss]
theorem sumF_mid (a : List (α → Int)) (v : α → Int) (b : List (α → Int)) : sumF (a ++ v :: b) = addF v (sumF (a ++ b)) := by
  funext s
  induction a with
  | nil => rfl
  | cons x a ih =>
    rw [List.cons_append, List.cons_append, sumF, ih]
    show x s + (v s + sumF (a ++ b) s) = v s + (x s + sumF (a ++ b) s)
    omega
theorem mem_msum : ∀ (n : Nat) (vs ws : List (α → Int)), ws.length = n → (∀ w ∈ ws, w ∈ vs) → sumF ws ∈ msum n vs
  | 0, vs, ws, h, _ => by
    have e : ws = [] := List.eq_nil_of_length_eq_zero h
    rw [e, msum]
    exact List.mem_singleton.mpr (by funext s; rfl)
  | n + 1, [], w :: ws, _, hs => by have := hs w List.mem_cons_self; cases this
  | n + 1, v :: vs, ws, h, hs => by
    rw [msum]
    by_cases c : v ∈ ws
    · obtain ⟨a, b, e⟩ := List.append_of_mem c
      subst e
      rw [sumF_mid]
      refine List.mem_append_left _ (List.mem_map.mpr ⟨_, mem_msum n (v :: vs) (a ++ b) ?_ fun w hw => ?_, rfl⟩)
      · rw [List.length_append, List.length_cons] at h
        rw [List.length_append]
        omega
      · refine hs w ?_
        rcases List.mem_append.mp hw with z | z
        · exact List.mem_append_left _ z
        · exact List.mem_append_right _ (List.mem_cons_of_mem _ z)
    · refine List.mem_append_right _ (mem_msum (n + 1) vs ws h fun w hw => ?_)
      rcases List.mem_cons.mp (hs w hw) with z | z
      · rw [z] at hw; exact absurd hw c
      · exact z
mutual
def cb : Fm α → Nat
  | .kind _ => 1
  | .many n p => mc (cb p) n
  | .node b ps => if b then cbP ps else cbS ps
def cbP : List (Fm α) → Nat
  | [] => 1
  | p :: r => cb p * cbP r
def cbS : List (Fm α) → Nat
  | [] => 0
  | p :: r => cb p + cbS r
end
/-- a list of all ways, perhaps some more than once -/
theorem ways_list (f : Fm α) : ∃ W : List (α → Int), W.length ≤ cb f ∧ ∀ w, Way f w → w ∈ W := by
  induction f using Fm.ind with
  | hk s => exact ⟨[fun x => if x = s then 1 else 0], by rw [cb]; exact Nat.le_refl _, fun w hw => List.mem_singleton.mpr (way_kind.mp hw)⟩
  | hm n p ih =>
    obtain ⟨W, h1, h2⟩ := ih
    refine ⟨msum n W, ?_, fun w hw => ?_⟩
    · rw [msum_len, cb]; exact mc_mono n h1
    · obtain ⟨ws, e, hv, rfl⟩ := way_many.mp hw
      exact mem_msum n W ws e fun v hv' => h2 v (hv v hv')
  | hn b ps ih =>
    cases b with
    | true =>
      have key : ∀ qs : List (Fm α), (∀ q ∈ qs, q ∈ ps) → ∃ W : List (α → Int), W.length ≤ cbP qs ∧ ∀ w, WayAll qs w → w ∈ W := by
        intro qs
        induction qs with
        | nil => intro _; exact ⟨[fun _ => 0], by rw [cbP]; exact Nat.le_refl _, fun w hw => by rw [WayAll] at hw; exact List.mem_singleton.mpr hw⟩
        | cons q r ihr =>
          intro hs
          obtain ⟨U, a1, a2⟩ := ih q (hs q List.mem_cons_self)
          obtain ⟨V, b1, b2⟩ := ihr fun y hy => hs y (List.mem_cons_of_mem _ hy)
          refine ⟨U.flatMap fun u => V.map (addF u), ?_, fun w hw => ?_⟩
          · have : ∀ U : List (α → Int), (U.flatMap fun u => V.map (addF u)).length = U.length * V.length := by
              intro U
              induction U with
              | nil => simp
              | cons u U ihu => rw [List.flatMap_cons, List.length_append, ihu, List.length_map, List.length_cons, Nat.add_mul]; omega
            rw [this, cbP]
            exact Nat.mul_le_mul a1 b1
          · rw [WayAll] at hw
            obtain ⟨u, v, h1, h2, rfl⟩ := hw
            exact List.mem_flatMap.mpr ⟨u, a2 u h1, List.mem_map.mpr ⟨v, b2 v h2, rfl⟩⟩
      obtain ⟨W, h1, h2⟩ := key ps fun q hq => hq
      exact ⟨W, by rw [cb]; exact h1, fun w hw => h2 w (way_and.mp hw)⟩
    | false =>
      have key : ∀ qs : List (Fm α), (∀ q ∈ qs, q ∈ ps) → ∃ W : List (α → Int), W.length ≤ cbS qs ∧ ∀ w, WayAny qs w → w ∈ W := by
        intro qs
        induction qs with
        | nil => intro _; exact ⟨[], Nat.zero_le _, fun w hw => by rw [WayAny] at hw; exact hw.elim⟩
        | cons q r ihr =>
          intro hs
          obtain ⟨U, a1, a2⟩ := ih q (hs q List.mem_cons_self)
          obtain ⟨V, b1, b2⟩ := ihr fun y hy => hs y (List.mem_cons_of_mem _ hy)
          refine ⟨U ++ V, by rw [List.length_append, cbS]; omega, fun w hw => ?_⟩
          rw [WayAny] at hw
          rcases hw with z | z
          · exact List.mem_append_left _ (a2 w z)
          · exact List.mem_append_right _ (b2 w z)
      obtain ⟨W, h1, h2⟩ := key ps fun q hq => hq
      exact ⟨W, by rw [cb]; exact h1, fun w hw => h2 w (way_or.mp hw)⟩
/-- the most ways of a formula of k kinds with a room r -/
def tb : Nat → Nat → Nat
  | 1, _ => 1
  | 2, r => [2, 2, 3, 4, 6, 6, 10, 10, 21].getD r 0
  | 3, r => [3, 3, 6, 10, 21].getD r 0
  | 4, r => [4, 4, 10, 20].getD r 0
  | 5, r => [6, 6, 21].getD r 0
  | _, _ => 0
/-- the greatest room -/
def room (k : Nat) : Nat := [12, 12, 8, 4, 3, 2].getD k 0
def okJ (a b r : Nat) : Bool := !(decide (1 ≤ a) && decide (1 ≤ b) && decide (a + b ≤ 5) && decide (1 ≤ r) && decide (r ≤ room (a + b))) || (decide (tb a r * tb b r ≤ tb (a + b) r) && decide (tb a r + tb b r ≤ tb (a + b) r) && decide (r ≤ room a) && decide (r ≤ room b))
def okM (k r n : Nat) : Bool := !(decide (1 ≤ k) && decide (2 ≤ n) && decide (n ≤ r) && decide (r ≤ room k)) || (decide (mc (tb k (r / n)) n ≤ tb k r) && decide (r / n ≤ room k))
theorem okJ_all : ((List.range 6).all fun a => (List.range 6).all fun b => (List.range 13).all fun r => okJ a b r) = true := by decide +kernel
theorem okM_all : ((List.range 6).all fun k => (List.range 13).all fun r => (List.range 13).all fun n => okM k r n) = true := by decide +kernel
theorem all_at {p : Nat → Bool} {n i : Nat} (h : (List.range n).all p = true) (hi : i < n) : p i = true := List.all_eq_true.mp h i (List.mem_range.mpr hi)
theorem tb_join (a : Nat) (ha : a < 6) (b : Nat) (hb : b < 6) (r : Nat) (hr : r < 13) (h1 : 1 ≤ a) (h2 : 1 ≤ b) (h3 : a + b ≤ 5) (h4 : 1 ≤ r) (h5 : r ≤ room (a + b)) : tb a r * tb b r ≤ tb (a + b) r ∧ tb a r + tb b r ≤ tb (a + b) r ∧ r ≤ room a ∧ r ≤ room b := by
  have h := all_at (all_at (all_at okJ_all ha) hb) hr
  simp only [okJ, decide_eq_true h1, decide_eq_true h2, decide_eq_true h3, decide_eq_true h4, decide_eq_true h5, Bool.and_true, Bool.not_true, Bool.false_or, Bool.and_eq_true, decide_eq_true_eq] at h
  exact ⟨h.1.1.1, h.1.1.2, h.1.2, h.2⟩
theorem tb_many (k : Nat) (hk : k < 6) (r : Nat) (hr : r < 13) (n : Nat) (hn : n < 13) (h1 : 1 ≤ k) (h2 : 2 ≤ n) (h3 : n ≤ r) (h4 : r ≤ room k) : mc (tb k (r / n)) n ≤ tb k r ∧ r / n ≤ room k := by
  have h := all_at (all_at (all_at okM_all hk) hr) hn
  simp only [okM, decide_eq_true h1, decide_eq_true h2, decide_eq_true h3, decide_eq_true h4, Bool.and_true, Bool.not_true, Bool.false_or, Bool.and_eq_true, decide_eq_true_eq] at h
  exact h
theorem tb_small : ∀ k, k < 6 → ∀ r, r < 13 → tb k r < 64 := by decide +kernel
theorem room_small : ∀ k, k < 6 → room k < 13 := by decide +kernel
theorem names_pos {B : Nat} {f : Fm α} (wf : Wf B f) : 1 ≤ f.names.length := by
  induction f using Fm.ind generalizing B with
  | hk s => simp [Fm.names]
  | hm n p ih => rw [Wf.many] at wf; rw [Fm.names]; exact ih wf.2.2
  | hn b ps ih =>
    rw [Wf.node] at wf
    match ps, wf, ih with
    | p :: r, wf, ih =>
      rw [Fm.names, namesL, List.length_append]
      have := ih p List.mem_cons_self (wf.2 p List.mem_cons_self)
      omega
theorem cb_le {r : Nat} {f : Fm α} (wf : Wf r f) (h5 : f.names.length ≤ 5) (hr : r ≤ room f.names.length) : cb f ≤ tb f.names.length r := by
  induction f using Fm.ind generalizing r with
  | hk s => rw [cb]; simp [Fm.names, tb]
  | hm n p ih =>
    have wf' := Wf.many.mp wf
    rw [Fm.names] at h5 hr ⊢
    have hk := names_pos wf'.2.2
    have hr13 : r < 13 := Nat.lt_of_le_of_lt hr (room_small _ (by omega))
    obtain ⟨a, b⟩ := tb_many p.names.length (by omega) r hr13 n (by omega) hk wf'.1 wf'.2.1 hr
    rw [cb]
    exact Nat.le_trans (mc_mono n (ih wf'.2.2 h5 b)) a
  | hn b ps ih =>
    have wf' := Wf.node.mp wf
    have rp := wf.pos
    rw [Fm.names] at h5 hr ⊢
    have key : ∀ qs : List (Fm α), qs ≠ [] → (∀ q ∈ qs, q ∈ ps) → (namesL qs).length ≤ 5 → r ≤ room (namesL qs).length → cbP qs ≤ tb (namesL qs).length r ∧ cbS qs ≤ tb (namesL qs).length r := by
      intro qs
      induction qs with
      | nil => intro z; exact absurd rfl z
      | cons q t iht =>
        intro _ hs h5 hr
        have hq := hs q List.mem_cons_self
        have n1 := names_pos (wf'.2 q hq)
        by_cases z : t = []
        · subst z
          have e : (namesL [q]).length = q.names.length := by rw [namesL, namesL, List.append_nil]
          rw [e] at h5 hr ⊢
          have := ih q hq (wf'.2 q hq) h5 hr
          rw [cbP, cbP, cbS, cbS]
          omega
        · have e : (namesL (q :: t)).length = q.names.length + (namesL t).length := by rw [namesL, List.length_append]
          rw [e] at h5 hr ⊢
          have n2 : 1 ≤ (namesL t).length := by
            match t, z, hs with
            | x :: y, _, hs =>
              have := names_pos (wf'.2 x (hs x (by simp)))
              rw [namesL, List.length_append]
              omega
          have hr13 : r < 13 := Nat.lt_of_le_of_lt hr (room_small _ (by omega))
          obtain ⟨j1, j2, j3, j4⟩ := tb_join q.names.length (by omega) (namesL t).length (by omega) r hr13 n1 n2 h5 rp hr
          have a := ih q hq (wf'.2 q hq) (by omega) j3
          obtain ⟨b1, b2⟩ := iht z (fun y hy => hs y (List.mem_cons_of_mem _ hy)) (by omega) j4
          rw [cbP, cbS]
          exact ⟨Nat.le_trans (Nat.mul_le_mul a b1) j1, by omega⟩
    obtain ⟨a, c⟩ := key ps (fun e => by rw [e] at wf'; simp at wf') (fun q hq => hq) h5 hr
    rw [cb]
    cases b with
    | true => exact a
    | false => exact c
theorem nodup_sub_len {β : Type} : ∀ {V W : List β}, V.Nodup → (∀ v ∈ V, v ∈ W) → V.length ≤ W.length
  | [], _, _, _ => Nat.zero_le _
  | v :: V, W, nd, hs => by
    obtain ⟨a, b, e⟩ := List.append_of_mem (hs v List.mem_cons_self)
    have nd' := List.nodup_cons.mp nd
    have h : ∀ x ∈ V, x ∈ a ++ b := fun x hx => by
      have := hs x (List.mem_cons_of_mem _ hx)
      rw [e] at this
      rcases List.mem_append.mp this with z | z
      · exact List.mem_append_left _ z
      · rcases List.mem_cons.mp z with z | z
        · rw [z] at hx; exact absurd hx nd'.1
        · exact List.mem_append_right _ z
    have := nodup_sub_len nd'.2 h
    rw [e]
    rw [List.length_append] at this
    rw [List.length_append, List.length_cons, List.length_cons]
    omega
/-- FEWER THAN 64 WAYS -/
theorem ways_few {r : Nat} {f : Fm α} (wf : Wf r f) (h5 : f.names.length ≤ 5) (hr : r ≤ room f.names.length) {K : List α} {V : List (List Int)} (nd : V.Nodup) (hV : ∀ v ∈ V, ∃ w, Way f w ∧ v = K.map w) : V.length < 64 := by
  obtain ⟨W, h1, h2⟩ := ways_list f
  have h : V.length ≤ (W.map fun w => K.map w).length := nodup_sub_len nd fun v hv => by
    obtain ⟨w, hw, e⟩ := hV v hv
    exact List.mem_map.mpr ⟨w, h2 w hw, e.symm⟩
  rw [List.length_map] at h
  have := cb_le wf h5 hr
  have := tb_small f.names.length (by omega) r (Nat.lt_of_le_of_lt hr (room_small _ (by omega)))
  omega
end
end K23
/-! L1: data at values (Dp) over heaps that grow; formulas as data; sorted names. -/
namespace K23
open PySem PySem.Spec PyProof.Rows L2
abbrev Tl := List (Addr × Str)
/-- all that is tracked stays, but the tables of code objects, which stay tables of their names -/
structure Ex (T : Tl) (H H' : Hp) : Prop where
  keep : ∀ a o, H a = some o → (∀ ps, o ≠ .tbl ps) → H' a = some o
  tabs : LamX.Tabs T H → LamX.Tabs T H'
section
variable {T : Tl} {H H1 H2 H' : Hp} {K : PySem.W.Frag} {a p : Addr} {o : HO} {xs : List V}
theorem Ex.refl (H : Hp) : Ex T H H := ⟨fun _ _ h _ => h, id⟩
theorem Ex.trans (x : Ex T H H1) (y : Ex T H1 H2) : Ex T H H2 := ⟨fun c u h n => y.keep c u (x.keep c u h n) n, fun t => y.tabs (x.tabs t)⟩
theorem Ex.of (e : ∀ b o, H b = some o → H' b = some o) : Ex T H H' := ⟨fun b o h _ => e b o h, fun t => t.ext e⟩
theorem Ex.new (h : H p = none) : Ex T H (upd H p o) := .of fun b u e => by
  rw [upd_ne (ne_of_none e h)]; exact e
theorem Ex.tup (e : Ex T H H') (h : H a = some (.tup xs)) : H' a = some (.tup xs) := e.keep _ _ h fun _ z => by cases z
theorem Ex.lst (e : Ex T H H') (h : H a = some (.lst xs)) : H' a = some (.lst xs) := e.keep _ _ h fun _ z => by cases z
theorem Ex.dK {kvs : List (Key × V)} (e : Ex T H H') (h : H a = some (.dK kvs)) : H' a = some (.dK kvs) := e.keep _ _ h fun _ z => by cases z
theorem Ex.ext {φ : Heap → Prop} (e : Ex T H H') (h : H a = some (.ext φ)) : H' a = some (.ext φ) := e.keep _ _ h fun _ z => by cases z
/-- an object that H does not know may change -/
theorem Ex.mut (e : Ex T H H') (h : H p = none) (hp : H' p = none ∨ ∃ u, H' p = some u ∧ (∀ ps, u ≠ .tbl ps) ∧ ∀ q c, u ≠ LamX.CodeO c q) : Ex T H (upd H' p o) := by
  refine ⟨fun b u hb n => by rw [upd_ne (ne_of_none hb h)]; exact e.keep b u hb n, fun t q hq => ?_⟩
  obtain ⟨ps, h1, h2, h3⟩ := e.tabs t q hq
  have np : q.1 ≠ p := fun z => by
    rcases hp with hp | ⟨u, hu, hn, _⟩
    · rw [← z, h1] at hp; cases hp
    · rw [← z, h1] at hu; cases hu; exact hn _ rfl
  refine ⟨ps, by rw [upd_ne np]; exact h1, h2, fun pos cv hc => ?_⟩
  obtain ⟨c, e1, e2⟩ := h3 pos cv hc
  have nc : c ≠ p := fun z => by
    rcases hp with hp | ⟨u, hu, _, hn⟩
    · rw [← z, e2] at hp; cases hp
    · rw [← z, e2] at hu; cases hu; exact hn _ _ rfl
  exact ⟨c, e1, by rw [upd_ne nc]; exact e2⟩
theorem codeO_lst {xs : List V} {q : Str} {c : Addr} : HO.lst xs ≠ LamX.CodeO c q := fun z => by unfold LamX.CodeO at z; cases z
theorem codeO_dK {xs : List (Key × V)} {q : Str} {c : Addr} : HO.dK xs ≠ LamX.CodeO c q := fun z => by unfold LamX.CodeO at z; cases z
theorem codeO_dT {xs : List (List Key × V)} {q : Str} {c : Addr} : HO.dT xs ≠ LamX.CodeO c q := fun z => by unfold LamX.CodeO at z; cases z
theorem Ex.mutL {ys : List V} (e : Ex T H H') (h : H p = none) (hp : H' p = some (.lst ys)) : Ex T H (upd H' p o) :=
  e.mut h (.inr ⟨_, hp, fun _ z => (by cases z), fun _ _ => codeO_lst⟩)
theorem Ex.mutT {ys : List (List Key × V)} (e : Ex T H H') (h : H p = none) (hp : H' p = some (.dT ys)) : Ex T H (upd H' p o) :=
  e.mut h (.inr ⟨_, hp, fun _ z => (by cases z), fun _ _ => codeO_dT⟩)
theorem Ex.mutK {ys : List (Key × V)} (e : Ex T H H') (h : H p = none) (hp : H' p = some (.dK ys)) : Ex T H (upd H' p o) :=
  e.mut h (.inr ⟨_, hp, fun _ z => (by cases z), fun _ _ => codeO_dK⟩)
theorem Ex.back (e : Ex T H H') (h : H' p = none) : (H p = none ∨ ∃ ps, H p = some (.tbl ps)) := by
  cases q : H p with
  | none => exact .inl rfl
  | some u =>
    by_cases t : ∃ ps, u = .tbl ps
    · obtain ⟨ps, rfl⟩ := t; exact .inr ⟨ps, rfl⟩
    · have := e.keep p u q fun ps z => t ⟨ps, z⟩
      rw [h] at this; cases this
/-- not tracked, or a table -/
def Fr (H : Hp) (p : Addr) : Prop := ∀ o, H p = some o → ∃ ps, o = .tbl ps
theorem Fr.of (h : H p = none) : Fr H p := fun o e => by rw [h] at e; cases e
theorem Fr.back (e : Ex T H H') (f : Fr H' p) : Fr H p := fun o h => by
  by_cases t : ∃ ps, o = .tbl ps
  · exact t
  · exact f o (e.keep p o h fun ps z => t ⟨ps, z⟩)
theorem Fr.new (e : Ex T H H') (h : H' p = none) : Fr H p := Fr.back e (Fr.of h)
theorem Fr.ne {ys : List V} (f : Fr H p) {D : Addr} (h : H D = some (.lst ys)) : p ≠ D := fun z => by
  obtain ⟨ps, e⟩ := f _ (by rw [z]; exact h)
  cases e
/-- an object that H does not know may change -/
theorem Ex.mutF (e : Ex T H H') (h : Fr H p) {u : HO} (hu : H' p = some u) (n1 : ∀ ps, u ≠ .tbl ps) (n2 : ∀ q c, u ≠ LamX.CodeO c q) : Ex T H (upd H' p o) := by
  refine ⟨fun b v hb n => by rw [upd_ne (fun z => by subst z; obtain ⟨ps, q⟩ := h v hb; exact n ps q)]; exact e.keep b v hb n, fun t q hq => ?_⟩
  obtain ⟨ps, h1, h2, h3⟩ := e.tabs t q hq
  have np : q.1 ≠ p := fun z => by rw [← z, h1] at hu; cases hu; exact n1 _ rfl
  refine ⟨ps, by rw [upd_ne np]; exact h1, h2, fun pos cv hc => ?_⟩
  obtain ⟨c, e1, e2⟩ := h3 pos cv hc
  have nc : c ≠ p := fun z => by rw [← z, e2] at hu; cases hu; exact n2 _ _ rfl
  exact ⟨c, e1, by rw [upd_ne nc]; exact e2⟩
theorem Ex.lstF {ys : List V} (e : Ex T H H') (h : Fr H p) (hu : H' p = some (.lst ys)) : Ex T H (upd H' p o) := e.mutF h hu (fun _ z => by cases z) fun _ _ => codeO_lst
theorem Ex.rd (e : Ex T H H') {u : HO} (n : ∀ ps, u ≠ .tbl ps) (h : Rd H a u) : Rd H' a u := by
  rcases h with h | ⟨o, h⟩
  · exact .inl (e.keep _ _ h n)
  · exact .inr ⟨o, e.keep _ _ h fun _ z => by cases z⟩
theorem Ex.sl (e : Ex T H H') (h : SqL K H a xs) : SqL K H' a xs := by
  rcases h with h | h
  · exact .inl (e.rd (fun _ z => by cases z) h)
  · exact .inr h
theorem Ex.st (e : Ex T H H') (h : SqT K H a xs) : SqT K H' a xs := by
  rcases h with h | h
  · exact .inl (e.rd (fun _ z => by cases z) h)
  · exact .inr h
/-- lists and tuples stand as they are -/
def Seqs (K : PySem.W.Frag) (H H' : Hp) : Prop := (∀ a xs, SqT K H a xs → SqT K H' a xs) ∧ ∀ a xs, SqL K H a xs → SqL K H' a xs
theorem Ex.seqs (e : Ex T H H') : Seqs K H H' := ⟨fun _ _ h => e.st h, fun _ _ h => e.sl h⟩
mutual
theorem dp_mono (e : Seqs K H H') : ∀ (d : PyData) (v : V), Dp K H v d → Dp K H' v d
  | .none, _, h => by cases h; exact .non
  | .bool _, _, h => by cases h; exact .bl _
  | .int _, _, h => by cases h; exact .int _
  | .str _, _, h => by cases h; exact .str _
  | .list ds, _, h => by
    cases h with
    | lst h1 h2 => exact .lst (e.2 _ _ h1) (dpa_mono e ds _ h2)
  | .tuple ds, _, h => by
    cases h with
    | tup h1 h2 => exact .tup (e.1 _ _ h1) (dpa_mono e ds _ h2)
  | .dict _, _, h => by cases h
theorem dpa_mono (e : Seqs K H H') : ∀ (ds : List PyData) (vs : List V), DpAll K H vs ds → DpAll K H' vs ds
  | [], _, h => by cases h; exact .nil
  | d :: ds, _, h => by
    cases h with
    | cons h1 h2 => exact .cons (dp_mono e d _ h1) (dpa_mono e ds _ h2)
end
mutual
/-- no list in it -/
def flatD : PyData → Bool
  | .list _ => false
  | .tuple ds => flatDs ds
  | _ => true
def flatDs : List PyData → Bool
  | [] => true
  | d :: ds => flatD d && flatDs ds
end
mutual
/-- data without lists: only tuples need stay -/
theorem dp_monoT (e : ∀ a xs, SqT K H a xs → SqT K H' a xs) : ∀ (d : PyData) (v : V), flatD d = true → Dp K H v d → Dp K H' v d
  | .none, _, _, h => by cases h; exact .non
  | .bool _, _, _, h => by cases h; exact .bl _
  | .int _, _, _, h => by cases h; exact .int _
  | .str _, _, _, h => by cases h; exact .str _
  | .list ds, _, f, _ => by rw [flatD] at f; cases f
  | .tuple ds, _, f, h => by
    cases h with
    | tup h1 h2 => exact .tup (e _ _ h1) (dpa_monoT e ds _ (by rw [flatD] at f; exact f) h2)
  | .dict _, _, _, h => by cases h
theorem dpa_monoT (e : ∀ a xs, SqT K H a xs → SqT K H' a xs) : ∀ (ds : List PyData) (vs : List V), flatDs ds = true → DpAll K H vs ds → DpAll K H' vs ds
  | [], _, _, h => by cases h; exact .nil
  | d :: ds, _, f, h => by
    rw [flatDs, Bool.and_eq_true] at f
    cases h with
    | cons h1 h2 => exact .cons (dp_monoT e d _ f.1 h1) (dpa_monoT e ds _ f.2 h2)
end
theorem Ex.dp {d : PyData} {v : V} (e : Ex T H H') (h : Dp K H v d) : Dp K H' v d := dp_mono e.seqs _ _ h
theorem Ex.dpa {ds : List PyData} {vs : List V} (e : Ex T H H') (h : DpAll K H vs ds) : DpAll K H' vs ds := dpa_mono e.seqs _ _ h
/-- tuples stay where a list, a dict is written -/
theorem tup_upd {u : HO} (h : ∀ xs o, H p ≠ some (.tup xs) ∧ H p ≠ some (.frz o (.tup xs))) : ∀ a xs, SqT K H a xs → SqT K (upd H p u) a xs := fun a xs q => by
  rcases q with (q | ⟨o, q⟩) | q
  · exact .inl (.inl (by rw [upd_ne (fun z => (h xs default).1 (by rw [← z]; exact q))]; exact q))
  · exact .inl (.inr ⟨o, by rw [upd_ne (fun z => (h xs o).2 (by rw [← z]; exact q))]; exact q⟩)
  · exact .inr q
theorem tup_updL {u : HO} {ys : List V} (h : H p = some (.lst ys)) : ∀ a xs, SqT K H a xs → SqT K (upd H p u) a xs := tup_upd fun xs o => ⟨fun z => (by rw [h] at z; cases z), fun z => (by rw [h] at z; cases z)⟩
theorem tup_updT {u : HO} {ys : List (List Key × V)} (h : H p = some (.dT ys)) : ∀ a xs, SqT K H a xs → SqT K (upd H p u) a xs := tup_upd fun xs o => ⟨fun z => (by rw [h] at z; cases z), fun z => (by rw [h] at z; cases z)⟩
/-! ### what stands at a value -/
theorem _root_.L2.Dp.at_tup {v : V} {ds : List PyData} (h : Dp K H v (.tuple ds)) : ∃ a xs, v = .ref a ∧ SqT K H a xs ∧ DpAll K H xs ds := by
  cases h with
  | tup h1 h2 => exact ⟨_, _, rfl, h1, h2⟩
theorem _root_.L2.Dp.at_lst {v : V} {ds : List PyData} (h : Dp K H v (.list ds)) : ∃ a xs, v = .ref a ∧ SqL K H a xs ∧ DpAll K H xs ds := by
  cases h with
  | lst h1 h2 => exact ⟨_, _, rfl, h1, h2⟩
theorem _root_.L2.Dp.at_int {v : V} {i : Int} (h : Dp K H v (.int i)) : v = .int i := by cases h; rfl
theorem _root_.L2.Dp.at_str {v : V} {s : Str} (h : Dp K H v (.str s)) : v = .str s := by cases h; rfl
theorem _root_.L2.Dp.at_none {v : V} (h : Dp K H v .none) : v = .non := by cases h; rfl
theorem dpa_len : ∀ {vs : List V} {ds : List PyData}, DpAll K H vs ds → vs.length = ds.length
  | _, _, .nil => rfl
  | _, _, .cons _ h => by rw [List.length_cons, List.length_cons, dpa_len h]
theorem dpa_get : ∀ {vs : List V} {ds : List PyData} {i : Nat} {d : PyData}, DpAll K H vs ds → ds[i]? = some d → ∃ v, vs[i]? = some v ∧ Dp K H v d
  | _, _, _, _, .nil, h => by simp at h
  | _, _, 0, d, .cons h1 _, h => by
    have e := Option.some.inj h
    subst e
    exact ⟨_, rfl, h1⟩
  | _, _, i + 1, d, .cons _ h2, h => dpa_get (i := i) h2 h
theorem dpa_val : ∀ {vs : List V} {ds : List PyData} {i : Nat} {v : V}, DpAll K H vs ds → vs[i]? = some v → ∃ d, ds[i]? = some d ∧ Dp K H v d
  | _, _, _, _, .nil, h => by simp at h
  | _, _, 0, v, .cons h1 _, h => by
    have e := Option.some.inj h
    subst e
    exact ⟨_, rfl, h1⟩
  | _, _, i + 1, v, .cons _ h2, h => dpa_val (i := i) h2 h
theorem dpa_split : ∀ {vs us : List V} {ds es : List PyData}, vs.length = ds.length → DpAll K H (vs ++ us) (ds ++ es) → DpAll K H vs ds ∧ DpAll K H us es
  | [], us, [], es, _, h => ⟨.nil, h⟩
  | [], _, _ :: _, _, l, _ => by simp at l
  | _ :: _, _, [], _, l, _ => by simp at l
  | v :: vs, us, d :: ds, es, l, h => by
    cases h with
    | cons h1 h2 =>
      obtain ⟨a, b⟩ := dpa_split (by simpa using l) h2
      exact ⟨.cons h1 a, b⟩
theorem dpa_ints : ∀ {vs : List V} {ns : List Int}, DpAll K H vs (ns.map .int) → vs = ns.map V.int
  | _, [], h => by cases h; rfl
  | _, n :: ns, h => by
    cases h with
    | cons h1 h2 => rw [h1.at_int, dpa_ints h2]; rfl
theorem dpa_of_ints : ∀ (ns : List Int), DpAll K H (ns.map V.int) (ns.map .int)
  | [] => .nil
  | n :: ns => .cons (.int n) (dpa_of_ints ns)
theorem dpa_bls : ∀ {vs : List V} {ns : List Bool}, DpAll K H vs (ns.map .bool) → vs = ns.map V.bl
  | _, [], h => by cases h; rfl
  | _, n :: ns, h => by
    cases h with
    | cons h1 h2 =>
      cases h1
      rw [dpa_bls h2]; rfl
theorem dpa_strs : ∀ {vs : List V} {ns : List Str}, DpAll K H vs (ns.map .str) → vs = ns.map V.str
  | _, [], h => by cases h; rfl
  | _, n :: ns, h => by
    cases h with
    | cons h1 h2 => rw [h1.at_str, dpa_strs h2]; rfl
theorem dpa_of_strs : ∀ (ns : List Str), DpAll K H (ns.map V.str) (ns.map .str)
  | [] => .nil
  | n :: ns => .cons (.str n) (dpa_of_strs ns)
theorem dpa_snoc : ∀ {vs : List V} {ds : List PyData} {v : V} {d : PyData}, DpAll K H vs ds → Dp K H v d → DpAll K H (vs ++ [v]) (ds ++ [d])
  | _, _, _, _, .nil, h => .cons h .nil
  | _, _, _, _, .cons h1 h2, h => .cons h1 (dpa_snoc h2 h)
theorem dpa_app : ∀ {vs us : List V} {ds es : List PyData}, DpAll K H vs ds → DpAll K H us es → DpAll K H (vs ++ us) (ds ++ es)
  | _, _, _, _, .nil, h => h
  | _, _, _, _, .cons h1 h2, h => .cons h1 (dpa_app h2 h)
theorem _root_.L2.Dp.tup_ints {v : V} {ns : List Int} (h : Dp K H v (.tuple (ns.map .int))) : ∃ a, v = .ref a ∧ SqT K H a (ns.map V.int) := by
  obtain ⟨a, xs, e, h1, h2⟩ := h.at_tup
  rw [dpa_ints h2] at h1
  exact ⟨a, e, h1⟩
theorem _root_.L2.Dp.tup_strs {v : V} {ns : List Str} (h : Dp K H v (.tuple (ns.map .str))) : ∃ a, v = .ref a ∧ SqT K H a (ns.map V.str) := by
  obtain ⟨a, xs, e, h1, h2⟩ := h.at_tup
  rw [dpa_strs h2] at h1
  exact ⟨a, e, h1⟩
theorem _root_.L2.Dp.lst_strs {v : V} {ns : List Str} (h : Dp K H v (.list (ns.map .str))) : ∃ a, v = .ref a ∧ SqL K H a (ns.map V.str) := by
  obtain ⟨a, xs, e, h1, h2⟩ := h.at_lst
  rw [dpa_strs h2] at h1
  exact ⟨a, e, h1⟩
theorem _root_.L2.Dp.new_ints {ns : List Int} : Dp K (upd H p (.tup (ns.map V.int))) (.ref p) (.tuple (ns.map .int)) := .tup (SqT.of upd_same) (dpa_of_ints ns)
theorem _root_.L2.Dp.new_strs {ns : List Str} : Dp K (upd H p (.tup (ns.map V.str))) (.ref p) (.tuple (ns.map .str)) := .tup (SqT.of upd_same) (dpa_of_strs ns)
end
/-! ### formulas as data -/
mutual
def enc : Fm Str → PyData
  | .kind s => .tuple [.str "kind", .str s]
  | .many n p => .tuple [.str "many", .int (n : Int), enc p]
  | .node b ps => .tuple [.str (if b then "and" else "or"), .tuple (encL ps)]
def encL : List (Fm Str) → List PyData
  | [] => []
  | p :: r => enc p :: encL r
end
theorem encL_eq (ps : List (Fm Str)) : encL ps = ps.map enc := by
  induction ps with
  | nil => rfl
  | cons p r ih => rw [encL, ih]; rfl
theorem enc_kind (s : Str) : enc (.kind s) = .tuple [.str "kind", .str s] := by rw [enc]
theorem enc_many (n : Nat) (p : Fm Str) : enc (.many n p) = .tuple [.str "many", .int (n : Int), enc p] := by rw [enc]
theorem enc_node (b : Bool) (ps : List (Fm Str)) : enc (.node b ps) = .tuple [.str (if b then "and" else "or"), .tuple (ps.map enc)] := by rw [enc, encL_eq]
section
variable {K : PySem.W.Frag} {H : Hp}
theorem at_kind {v : V} {s : Str} (h : Dp K H v (enc (.kind s))) : ∃ a, v = .ref a ∧ SqT K H a [.str "kind", .str s] := by
  rw [enc_kind] at h
  obtain ⟨a, xs, e, h1, h2⟩ := h.at_tup
  cases h2 with
  | cons x1 y1 =>
    cases y1 with
    | cons x2 y2 =>
      cases y2
      rw [x1.at_str, x2.at_str] at h1
      exact ⟨a, e, h1⟩
theorem at_many {v : V} {n : Nat} {p : Fm Str} (h : Dp K H v (enc (.many n p))) : ∃ a u, v = .ref a ∧ SqT K H a [.str "many", .int (n : Int), u] ∧ Dp K H u (enc p) := by
  rw [enc_many] at h
  obtain ⟨a, xs, e, h1, h2⟩ := h.at_tup
  cases h2 with
  | cons x1 y1 =>
    cases y1 with
    | cons x2 y2 =>
      cases y2 with
      | cons x3 y3 =>
        cases y3
        rw [x1.at_str, x2.at_int] at h1
        exact ⟨a, _, e, h1, x3⟩
theorem at_node {v : V} {b : Bool} {ps : List (Fm Str)} (h : Dp K H v (enc (.node b ps))) : ∃ a c us, v = .ref a ∧ SqT K H a [.str (if b then "and" else "or"), .ref c] ∧ SqT K H c us ∧ DpAll K H us (ps.map enc) := by
  rw [enc_node] at h
  obtain ⟨a, xs, e, h1, h2⟩ := h.at_tup
  cases h2 with
  | cons x1 y1 =>
    cases y1 with
    | cons x2 y2 =>
      cases y2
      obtain ⟨c, us, e2, h3, h4⟩ := x2.at_tup
      rw [x1.at_str, e2] at h1
      exact ⟨a, c, us, e, h1, h3, h4⟩
theorem at_part {us : List V} {ps : List (Fm Str)} {i : Nat} {x : V} (h : DpAll K H us (ps.map enc)) (hx : us[i]? = some x) : ∃ p, ps[i]? = some p ∧ Dp K H x (enc p) := by
  obtain ⟨d, hd, h2⟩ := dpa_val h hx
  rw [List.getElem?_map] at hd
  cases q : ps[i]? with
  | none => rw [q] at hd; cases hd
  | some p => rw [q] at hd; exact ⟨p, rfl, by rw [Option.some.inj hd]; exact h2⟩
mutual
theorem flat_enc : ∀ f : Fm Str, flatD (enc f) = true
  | .kind s => by rw [enc_kind]; rfl
  | .many n p => by rw [enc_many, flatD, flatDs, flatDs, flatDs, flat_enc p]; rfl
  | .node b ps => by rw [enc, flatD, flatDs, flatDs, flatD, flat_encL ps]; rfl
theorem flat_encL : ∀ ps : List (Fm Str), flatDs (encL ps) = true
  | [] => rfl
  | p :: r => by rw [encL, flatDs, flat_enc p, flat_encL r]; rfl
end
end
/-! ### sorted names -/
def leS (a b : Str) : Bool := decide (a.cps.toList ≤ b.cps.toList)
def sortN (ns : List Str) : List Str := ns.mergeSort leS
theorem str_ext {a b : Str} (h : a.cps.toList = b.cps.toList) : a = b := by
  obtain ⟨⟨x⟩⟩ := a
  obtain ⟨⟨y⟩⟩ := b
  have e : x = y := h
  rw [e]
theorem leS_total (a b : Str) : (leS a b || leS b a) = true := by
  unfold leS
  rcases List.le_total a.cps.toList b.cps.toList with h | h
  · rw [decide_eq_true h]; rfl
  · rw [decide_eq_true h, Bool.or_true]
theorem leS_trans (a b c : Str) (h1 : leS a b = true) (h2 : leS b c = true) : leS a c = true :=
  decide_eq_true (List.le_trans (of_decide_eq_true h1) (of_decide_eq_true h2))
theorem leS_antisymm {a b : Str} (h1 : leS a b = true) (h2 : leS b a = true) : a = b :=
  str_ext (List.le_antisymm (of_decide_eq_true h1) (of_decide_eq_true h2))
theorem sortN_perm (ns : List Str) : (sortN ns).Perm ns := List.mergeSort_perm ns leS
theorem sortN_sorted (ns : List Str) : (sortN ns).Pairwise fun a b => leS a b = true := List.pairwise_mergeSort leS_trans leS_total ns
theorem sorted_unique {l l' : List Str} (p : l.Perm l') (h : l.Pairwise fun a b => leS a b = true) (h' : l'.Pairwise fun a b => leS a b = true) : l = l' :=
  p.eq_of_pairwise (fun a b _ _ h1 h2 => leS_antisymm h1 h2) h h'
theorem sortN_perm_eq {l l' : List Str} (p : l.Perm l') : sortN l = sortN l' :=
  sorted_unique ((sortN_perm l).trans (p.trans (sortN_perm l').symm)) (sortN_sorted l) (sortN_sorted l')
end K23
/-! D1: the text's defs, their scopes, what the top leaves of them. Printed by mkD1.py. -/
namespace K23
open PySem PySem.Spec PyProof.Rows L2
def topS (i : Nat) : Stmt := PySem.Challenge.pw_asmany_k23_whole_what_more_of_a_kind_giv.main.body.getD i (.Pass ⟨0, 0, 0, 0⟩)
abbrev N_is_integer : List Str := ["value"]
theorem sc_is_integer : FnScope N_is_integer ["value"] (defScope (topS 9)) := ⟨rfl, rfl, rfl, by decide +kernel, rfl, by decide +kernel, by decide +kernel⟩
abbrev N_is_number : List Str := ["value"]
theorem sc_is_number : FnScope N_is_number ["value"] (defScope (topS 10)) := ⟨rfl, rfl, rfl, by decide +kernel, rfl, by decide +kernel, by decide +kernel⟩
abbrev N_is_name : List Str := ["value", "sign"]
theorem sc_is_name : FnScope N_is_name ["value"] (defScope (topS 11)) := ⟨rfl, rfl, rfl, by decide +kernel, rfl, by decide +kernel, by decide +kernel⟩
abbrev N_is_name_lot : List Str := ["value", "item"]
theorem sc_is_name_lot : FnScope N_is_name_lot ["value"] (defScope (topS 12)) := ⟨rfl, rfl, rfl, by decide +kernel, rfl, by decide +kernel, by decide +kernel⟩
abbrev N_names_in : List Str := ["formula", "part", "name"]
theorem sc_names_in : FnScope N_names_in ["formula"] (defScope (topS 14)) := ⟨rfl, rfl, rfl, by decide +kernel, rfl, by decide +kernel, by decide +kernel⟩
abbrev N_kinds_of : List Str := ["formula"]
theorem sc_kinds_of : FnScope N_kinds_of ["formula"] (defScope (topS 15)) := ⟨rfl, rfl, rfl, by decide +kernel, rfl, by decide +kernel, by decide +kernel⟩
abbrev N_joined : List Str := ["word", "parts", "found", "part"]
theorem sc_joined : FnScope N_joined ["word", "parts"] (defScope (topS 16)) := ⟨rfl, rfl, rfl, by decide +kernel, rfl, by decide +kernel, by decide +kernel⟩
abbrev N_normal_times : List Str := ["formula", "many", "inner", "part"]
theorem sc_normal_times : FnScope N_normal_times ["formula", "many"] (defScope (topS 17)) := ⟨rfl, rfl, rfl, by decide +kernel, rfl, by decide +kernel, by decide +kernel⟩
abbrev N_normal : List Str := ["formula"]
theorem sc_normal : FnScope N_normal ["formula"] (defScope (topS 18)) := ⟨rfl, rfl, rfl, by decide +kernel, rfl, by decide +kernel, by decide +kernel⟩
abbrev N_check_pool_of : List Str := ["formula", "value", "at", "amount"]
theorem sc_check_pool_of : FnScope N_check_pool_of ["formula", "value"] (defScope (topS 20)) := ⟨rfl, rfl, rfl, by decide +kernel, rfl, by decide +kernel, by decide +kernel⟩
abbrev N_amounts_by_name : List Str := ["formula", "pool", "name", "amount"]
theorem sc_amounts_by_name : FnScope N_amounts_by_name ["formula", "pool"] (defScope (topS 21)) := ⟨rfl, rfl, rfl, by decide +kernel, rfl, by decide +kernel, by decide +kernel⟩
abbrev N_checked_row : List Str := ["formula", "pool"]
theorem sc_checked_row : FnScope N_checked_row ["formula", "pool"] (defScope (topS 22)) := ⟨rfl, rfl, rfl, by decide +kernel, rfl, by decide +kernel, by decide +kernel⟩
abbrev N_number_of : List Str := ["formula", "row", "numbers", "part"]
theorem sc_number_of : FnScope N_number_of ["formula", "row"] (defScope (topS 23)) := ⟨rfl, rfl, rfl, by decide +kernel, rfl, by decide +kernel, by decide +kernel⟩
abbrev N_pieces : List Str := ["formula", "pool"]
theorem sc_pieces : FnScope N_pieces ["formula", "pool"] (defScope (topS 24)) := ⟨rfl, rfl, rfl, by decide +kernel, rfl, by decide +kernel, by decide +kernel⟩
abbrev N_target_of : List Str := ["formula", "row", "name", "many", "inner", "others", "part"]
theorem sc_target_of : FnScope N_target_of ["formula", "row", "name", "many"] (defScope (topS 25)) := ⟨rfl, rfl, rfl, by decide +kernel, rfl, by decide +kernel, by decide +kernel⟩
abbrev N_needed : List Str := ["formula", "pool", "kind", "many", "row", "found"]
theorem sc_needed : FnScope N_needed ["formula", "pool", "kind", "many"] (defScope (topS 26)) := ⟨rfl, rfl, rfl, by decide +kernel, rfl, by decide +kernel, by decide +kernel⟩
abbrev N_short_kinds : List Str := ["formula", "pool", "row", "more", "name"]
theorem sc_short_kinds : FnScope N_short_kinds ["formula", "pool"] (defScope (topS 27)) := ⟨rfl, rfl, rfl, by decide +kernel, rfl, by decide +kernel, by decide +kernel⟩
abbrev N_endless_number : List Str := ["formula", "row", "lot", "inner", "numbers", "known", "part", "number"]
theorem sc_endless_number : FnScope N_endless_number ["formula", "row", "lot"] (defScope (topS 28)) := ⟨rfl, rfl, rfl, by decide +kernel, rfl, by decide +kernel, by decide +kernel⟩
abbrev N_pieces_with_plenty : List Str := ["formula", "pool", "lot", "row", "name"]
theorem sc_pieces_with_plenty : FnScope N_pieces_with_plenty ["formula", "pool", "lot"] (defScope (topS 29)) := ⟨rfl, rfl, rfl, by decide +kernel, rfl, by decide +kernel, by decide +kernel⟩
abbrev N_cut_formula : List Str := ["formula", "lot", "word", "part", "parts", "left"]
theorem sc_cut_formula : FnScope N_cut_formula ["formula", "lot", "word"] (defScope (topS 31)) := ⟨rfl, rfl, rfl, by decide +kernel, rfl, by decide +kernel, by decide +kernel⟩
abbrev N_normal_cut : List Str := ["formula", "lot", "word", "found", "name"]
theorem sc_normal_cut : FnScope N_normal_cut ["formula", "lot", "word"] (defScope (topS 32)) := ⟨rfl, rfl, rfl, by decide +kernel, rfl, by decide +kernel, by decide +kernel⟩
abbrev N_formula_lacking : List Str := ["formula", "lot"]
theorem sc_formula_lacking : FnScope N_formula_lacking ["formula", "lot"] (defScope (topS 33)) := ⟨rfl, rfl, rfl, by decide +kernel, rfl, by decide +kernel, by decide +kernel⟩
abbrev N_formula_plenty : List Str := ["formula", "lot"]
theorem sc_formula_plenty : FnScope N_formula_plenty ["formula", "lot"] (defScope (topS 34)) := ⟨rfl, rfl, rfl, by decide +kernel, rfl, by decide +kernel, by decide +kernel⟩
abbrev N_sides_in : List Str := ["formula", "part", "found", "more", "side", "other"]
theorem sc_sides_in : FnScope N_sides_in ["formula"] (defScope (topS 36)) := ⟨rfl, rfl, rfl, by decide +kernel, rfl, by decide +kernel, by decide +kernel⟩
abbrev N_all_sides : List Str := ["formula", "side"]
theorem sc_all_sides : FnScope N_all_sides ["formula"] (defScope (topS 37)) := ⟨rfl, rfl, rfl, by decide +kernel, rfl, by decide +kernel, by decide +kernel⟩
abbrev N_side_number : List Str := ["formula", "row", "side", "upwards", "inner", "met", "part", "name"]
theorem sc_side_number : FnScope N_side_number ["formula", "row", "side", "upwards"] (defScope (topS 38)) := ⟨rfl, rfl, rfl, by decide +kernel, rfl, by decide +kernel, by decide +kernel⟩
abbrev N_tight_sides : List Str := ["formula", "pool", "row", "number", "side"]
theorem sc_tight_sides : FnScope N_tight_sides ["formula", "pool"] (defScope (topS 39)) := ⟨rfl, rfl, rfl, by decide +kernel, rfl, by decide +kernel, by decide +kernel⟩
abbrev N_l_heap : List Str := ["_law_script", "_law_cell", "_law_cells", "_law_stir"]
theorem sc_l_heap : FnScope N_l_heap ["_law_script"] (defScope (topS 41)) := ⟨rfl, rfl, rfl, by decide +kernel, rfl, by decide +kernel, by decide +kernel⟩
abbrev N_l_draw : List Str := ["_law_heap_here", "_law_many", "_law_rest"]
theorem sc_l_draw : FnScope N_l_draw ["_law_heap_here", "_law_many"] (defScope (topS 42)) := ⟨rfl, rfl, rfl, by decide +kernel, rfl, by decide +kernel, by decide +kernel⟩
abbrev N_l_pick : List Str := ["_law_heap_here", "_law_some"]
theorem sc_l_pick : FnScope N_l_pick ["_law_heap_here", "_law_some"] (defScope (topS 43)) := ⟨rfl, rfl, rfl, by decide +kernel, rfl, by decide +kernel, by decide +kernel⟩
abbrev N_l_names : List Str := ["_law_heap_here", "_law_many", "_law_letters", "_law_found", "_law_front", "_law_turn", "_law_place", "_law_word"]
theorem sc_l_names : FnScope N_l_names ["_law_heap_here", "_law_many"] (defScope (topS 44)) := ⟨rfl, rfl, rfl, by decide +kernel, rfl, by decide +kernel, by decide +kernel⟩
abbrev N_l_formula : List Str := ["_law_heap_here", "_law_names_here", "_law_room", "_law_many", "_law_word", "_law_size", "_law_rest", "_law_parts", "_law_place", "_law_here"]
theorem sc_l_formula : FnScope N_l_formula ["_law_heap_here", "_law_names_here", "_law_room"] (defScope (topS 45)) := ⟨rfl, rfl, rfl, by decide +kernel, rfl, by decide +kernel, by decide +kernel⟩
abbrev N_l_sums : List Str := ["_law_rows", "_law_others", "_law_found", "_law_one", "_law_other", "_law_at"]
theorem sc_l_sums : FnScope N_l_sums ["_law_rows", "_law_others"] (defScope (topS 46)) := ⟨rfl, rfl, rfl, by decide +kernel, rfl, by decide +kernel, by decide +kernel⟩
abbrev N_l_ways : List Str := ["_law_formula_here", "_law_kinds", "_law_rows", "_law_found", "_law_turn", "_law_part", "_law_kind"]
theorem sc_l_ways : FnScope N_l_ways ["_law_formula_here", "_law_kinds"] (defScope (topS 47)) := ⟨rfl, rfl, rfl, by decide +kernel, rfl, by decide +kernel, by decide +kernel⟩
abbrev N_l_taken : List Str := ["_law_ways_here", "_law_pool", "_law_most", "_law_rest", "_law_many", "_law_way", "_law_here", "_law_at"]
theorem sc_l_taken : FnScope N_l_taken ["_law_ways_here", "_law_pool", "_law_most"] (defScope (topS 48)) := ⟨rfl, rfl, rfl, by decide +kernel, rfl, by decide +kernel, by decide +kernel⟩
abbrev N_l_turned : List Str := ["_law_heap_here", "_law_some", "_law_at", "_law_found"]
theorem sc_l_turned : FnScope N_l_turned ["_law_heap_here", "_law_some"] (defScope (topS 49)) := ⟨rfl, rfl, rfl, by decide +kernel, rfl, by decide +kernel, by decide +kernel⟩
abbrev N_l_amount : List Str := ["_law_heap_here", "_law_kind"]
theorem sc_l_amount : FnScope N_l_amount ["_law_heap_here"] (defScope (topS 50)) := ⟨rfl, rfl, rfl, by decide +kernel, rfl, by decide +kernel, by decide +kernel⟩
abbrev N_l_number : List Str := ["_law_ways_here", "_law_pool"]
theorem sc_l_number : FnScope N_l_number ["_law_ways_here", "_law_pool"] (defScope (topS 51)) := ⟨rfl, rfl, rfl, by decide +kernel, rfl, by decide +kernel, by decide +kernel⟩
abbrev N_l_with : List Str := ["_law_pool", "_law_at", "_law_amount_here"]
theorem sc_l_with : FnScope N_l_with ["_law_pool", "_law_at", "_law_amount_here"] (defScope (topS 52)) := ⟨rfl, rfl, rfl, by decide +kernel, rfl, by decide +kernel, by decide +kernel⟩
abbrev N_l_lots : List Str := ["_law_kinds", "_law_found", "_law_kind", "_law_lot"]
theorem sc_l_lots : FnScope N_l_lots ["_law_kinds"] (defScope (topS 53)) := ⟨rfl, rfl, rfl, by decide +kernel, rfl, by decide +kernel, by decide +kernel⟩
abbrev N_l_is_least : List Str := ["_law_ways_here", "_law_pool", "_law_at", "_law_many", "_law_told", "_law_way"]
theorem sc_l_is_least : FnScope N_l_is_least ["_law_ways_here", "_law_pool", "_law_at", "_law_many", "_law_told"] (defScope (topS 54)) := ⟨rfl, rfl, rfl, by decide +kernel, rfl, by decide +kernel, by decide +kernel⟩
abbrev N_l_needed_right : List Str := ["_law_heap_here", "_law_formula_here", "_law_kinds", "_law_ways_here", "_law_pool", "_law_number_here", "_law_short", "_law_at", "_law_size", "_law_before", "_law_many", "_law_told", "_law_other", "_law_way"]
theorem sc_l_needed_right : FnScope N_l_needed_right ["_law_heap_here", "_law_formula_here", "_law_kinds", "_law_ways_here", "_law_pool"] (defScope (topS 55)) := ⟨rfl, rfl, rfl, by decide +kernel, rfl, by decide +kernel, by decide +kernel⟩
abbrev N_l_cut : List Str := ["_law_row", "_law_kinds", "_law_lot", "_law_at"]
theorem sc_l_cut : FnScope N_l_cut ["_law_row", "_law_kinds", "_law_lot"] (defScope (topS 56)) := ⟨rfl, rfl, rfl, by decide +kernel, rfl, by decide +kernel, by decide +kernel⟩
abbrev N_l_lots_right : List Str := ["_law_heap_here", "_law_formula_here", "_law_kinds", "_law_ways_here", "_law_pool", "_law_number_here", "_law_tight", "_law_lot", "_law_cuts", "_law_rest", "_law_due", "_law_told", "_law_empty", "_law_at", "_law_k", "_law_side", "_law_way", "_law_cut_here", "_law_kind"]
theorem sc_l_lots_right : FnScope N_l_lots_right ["_law_heap_here", "_law_formula_here", "_law_kinds", "_law_ways_here", "_law_pool"] (defScope (topS 57)) := ⟨rfl, rfl, rfl, by decide +kernel, rfl, by decide +kernel, by decide +kernel⟩
abbrev N_l_idle : List Str := ["_law_kinds", "_law_formula_here", "_law_names_here", "_law_open_parts", "_law_turn", "_law_part", "_law_kind"]
theorem sc_l_idle : FnScope N_l_idle ["_law_kinds", "_law_formula_here"] (defScope (topS 58)) := ⟨rfl, rfl, rfl, by decide +kernel, rfl, by decide +kernel, by decide +kernel⟩
abbrev N_l_heard : List Str := ["_law_work", "error"]
theorem sc_l_heard : FnScope N_l_heard ["_law_work"] (defScope (topS 59)) := ⟨rfl, rfl, rfl, by decide +kernel, rfl, by decide +kernel, by decide +kernel⟩
abbrev N_l_refused_right : List Str := ["_law_heap_here", "_law_formula_here", "_law_kinds", "_law_pool", "_law_at", "_law_other", "_law_lots_here", "_law_lot", "_law_name", "_law_number_here", "_law_odd", "_law_word"]
theorem sc_l_refused_right : FnScope N_l_refused_right ["_law_heap_here", "_law_formula_here", "_law_kinds", "_law_pool"] (defScope (topS 60)) := ⟨rfl, rfl, rfl, by decide +kernel, rfl, by decide +kernel, by decide +kernel⟩
abbrev N_l_flat_right : List Str := ["_law_heap_here", "_law_size", "_law_at", "_law_names_here", "_law_pool", "_law_both", "_law_either", "_law_kinds", "_law_others", "_law_many", "_law_short", "_law_lot", "_law_k", "_law_name"]
theorem sc_l_flat_right : FnScope N_l_flat_right ["_law_heap_here"] (defScope (topS 61)) := ⟨rfl, rfl, rfl, by decide +kernel, rfl, by decide +kernel, by decide +kernel⟩
abbrev N_law : List Str := ["_law_script", "_law_heap_here", "_law_turn", "_law_many", "_law_names_here", "_law_formula_here", "_law_kinds", "_law_ways_here", "_law_small", "_law_great", "_law_pool", "_law_tea", "_law_kind"]
theorem sc_law : FnScope N_law ["_law_script"] (defScope (topS 62)) := ⟨rfl, rfl, rfl, by decide +kernel, rfl, by decide +kernel, by decide +kernel⟩
def defs : List (Nat × Str) := [(9, ("is_integer" : Str)), (10, ("is_number" : Str)), (11, ("is_name" : Str)), (12, ("is_name_lot" : Str)), (14, ("names_in" : Str)), (15, ("kinds_of" : Str)), (16, ("joined" : Str)), (17, ("normal_times" : Str)), (18, ("normal" : Str)), (20, ("check_pool_of" : Str)), (21, ("amounts_by_name" : Str)), (22, ("checked_row" : Str)), (23, ("number_of" : Str)), (24, ("pieces" : Str)), (25, ("target_of" : Str)), (26, ("needed" : Str)), (27, ("short_kinds" : Str)), (28, ("endless_number" : Str)), (29, ("pieces_with_plenty" : Str)), (31, ("cut_formula" : Str)), (32, ("normal_cut" : Str)), (33, ("formula_lacking" : Str)), (34, ("formula_plenty" : Str)), (36, ("sides_in" : Str)), (37, ("all_sides" : Str)), (38, ("side_number" : Str)), (39, ("tight_sides" : Str)), (41, ("_law_heap" : Str)), (42, ("_law_draw" : Str)), (43, ("_law_pick" : Str)), (44, ("_law_names" : Str)), (45, ("_law_formula" : Str)), (46, ("_law_sums" : Str)), (47, ("_law_ways" : Str)), (48, ("_law_taken" : Str)), (49, ("_law_turned" : Str)), (50, ("_law_amount" : Str)), (51, ("_law_number" : Str)), (52, ("_law_with" : Str)), (53, ("_law_lots" : Str)), (54, ("_law_is_least" : Str)), (55, ("_law_needed_right" : Str)), (56, ("_law_cut" : Str)), (57, ("_law_lots_right" : Str)), (58, ("_law_idle" : Str)), (59, ("_law_heard" : Str)), (60, ("_law_refused_right" : Str)), (61, ("_law_flat_right" : Str)), (62, ("law" : Str))]
def dvOf : Nat → List V
  | 38 => [V.bl false]
  | _ => []
def frees : List Str := ["len", "sum", "min", "max", "sorted", "tuple", "list", "int", "isinstance", "abs", "all", "any", "repr", "range", "enumerate", "zip", "set", "bool", "str", "super", "ValueError"]
structure Txt (K : PySem.W.Frag) (mg : Str → Option Value) (A : Nat → Addr) (D : Nat → FuncData) : Prop where
  F : ∀ (j : Nat) (d : Nat × Str), defs[j]? = some d → FunD K d.2 d.2 (defArgs (topS d.1)) (defBody (topS d.1)) (defScope (topS d.1)) (dvOf d.1) [] (A d.1) (D d.1)
  g : ∀ (j : Nat) (d : Nat × Str), defs[j]? = some d → mg d.2 = some (.ref (A d.1))
  z : ∀ (j : Nat) (x : Str), frees[j]? = some x → mg x = none
  letters : ∃ t, mg "LETTERS" = some (.str "abcdefghijklmnopqrstuvwxyz" t)
  longest : ∃ t, mg "LONGEST_NAME" = some (.int 5 t)
  most : ∃ t, mg "MOST_POOL" = some (.int (10 ^ 18) t)
section
variable {K : PySem.W.Frag} {mg : Str → Option Value} {A : Nat → Addr} {D : Nat → FuncData}
theorem F_is_integer (U : Txt K mg A D) : FunD K "is_integer" "is_integer" (defArgs (topS 9)) (defBody (topS 9)) (defScope (topS 9)) [] [] (A 9) (D 9) := U.F 0 (9, "is_integer") rfl
theorem g_is_integer (U : Txt K mg A D) : mg "is_integer" = some (.ref (A 9)) := U.g 0 (9, "is_integer") rfl
theorem b_is_integer (U : Txt K mg A D) : Binds K (D 9) ["value"] [] := (F_is_integer U).bindsN fun _ _ _ _ _ _ us hl => match us, hl with | [_], _ => rfl
theorem F_is_number (U : Txt K mg A D) : FunD K "is_number" "is_number" (defArgs (topS 10)) (defBody (topS 10)) (defScope (topS 10)) [] [] (A 10) (D 10) := U.F 1 (10, "is_number") rfl
theorem g_is_number (U : Txt K mg A D) : mg "is_number" = some (.ref (A 10)) := U.g 1 (10, "is_number") rfl
theorem b_is_number (U : Txt K mg A D) : Binds K (D 10) ["value"] [] := (F_is_number U).bindsN fun _ _ _ _ _ _ us hl => match us, hl with | [_], _ => rfl
theorem F_is_name (U : Txt K mg A D) : FunD K "is_name" "is_name" (defArgs (topS 11)) (defBody (topS 11)) (defScope (topS 11)) [] [] (A 11) (D 11) := U.F 2 (11, "is_name") rfl
theorem g_is_name (U : Txt K mg A D) : mg "is_name" = some (.ref (A 11)) := U.g 2 (11, "is_name") rfl
theorem b_is_name (U : Txt K mg A D) : Binds K (D 11) ["value"] [] := (F_is_name U).bindsN fun _ _ _ _ _ _ us hl => match us, hl with | [_], _ => rfl
theorem F_is_name_lot (U : Txt K mg A D) : FunD K "is_name_lot" "is_name_lot" (defArgs (topS 12)) (defBody (topS 12)) (defScope (topS 12)) [] [] (A 12) (D 12) := U.F 3 (12, "is_name_lot") rfl
theorem g_is_name_lot (U : Txt K mg A D) : mg "is_name_lot" = some (.ref (A 12)) := U.g 3 (12, "is_name_lot") rfl
theorem b_is_name_lot (U : Txt K mg A D) : Binds K (D 12) ["value"] [] := (F_is_name_lot U).bindsN fun _ _ _ _ _ _ us hl => match us, hl with | [_], _ => rfl
theorem F_names_in (U : Txt K mg A D) : FunD K "names_in" "names_in" (defArgs (topS 14)) (defBody (topS 14)) (defScope (topS 14)) [] [] (A 14) (D 14) := U.F 4 (14, "names_in") rfl
theorem g_names_in (U : Txt K mg A D) : mg "names_in" = some (.ref (A 14)) := U.g 4 (14, "names_in") rfl
theorem b_names_in (U : Txt K mg A D) : Binds K (D 14) ["formula"] [] := (F_names_in U).bindsN fun _ _ _ _ _ _ us hl => match us, hl with | [_], _ => rfl
theorem F_kinds_of (U : Txt K mg A D) : FunD K "kinds_of" "kinds_of" (defArgs (topS 15)) (defBody (topS 15)) (defScope (topS 15)) [] [] (A 15) (D 15) := U.F 5 (15, "kinds_of") rfl
theorem g_kinds_of (U : Txt K mg A D) : mg "kinds_of" = some (.ref (A 15)) := U.g 5 (15, "kinds_of") rfl
theorem b_kinds_of (U : Txt K mg A D) : Binds K (D 15) ["formula"] [] := (F_kinds_of U).bindsN fun _ _ _ _ _ _ us hl => match us, hl with | [_], _ => rfl
theorem F_joined (U : Txt K mg A D) : FunD K "joined" "joined" (defArgs (topS 16)) (defBody (topS 16)) (defScope (topS 16)) [] [] (A 16) (D 16) := U.F 6 (16, "joined") rfl
theorem g_joined (U : Txt K mg A D) : mg "joined" = some (.ref (A 16)) := U.g 6 (16, "joined") rfl
theorem b_joined (U : Txt K mg A D) : Binds K (D 16) ["word", "parts"] [] := (F_joined U).bindsN fun _ _ _ _ _ _ us hl => match us, hl with | [_, _], _ => rfl
theorem F_normal_times (U : Txt K mg A D) : FunD K "normal_times" "normal_times" (defArgs (topS 17)) (defBody (topS 17)) (defScope (topS 17)) [] [] (A 17) (D 17) := U.F 7 (17, "normal_times") rfl
theorem g_normal_times (U : Txt K mg A D) : mg "normal_times" = some (.ref (A 17)) := U.g 7 (17, "normal_times") rfl
theorem b_normal_times (U : Txt K mg A D) : Binds K (D 17) ["formula", "many"] [] := (F_normal_times U).bindsN fun _ _ _ _ _ _ us hl => match us, hl with | [_, _], _ => rfl
theorem F_normal (U : Txt K mg A D) : FunD K "normal" "normal" (defArgs (topS 18)) (defBody (topS 18)) (defScope (topS 18)) [] [] (A 18) (D 18) := U.F 8 (18, "normal") rfl
theorem g_normal (U : Txt K mg A D) : mg "normal" = some (.ref (A 18)) := U.g 8 (18, "normal") rfl
theorem b_normal (U : Txt K mg A D) : Binds K (D 18) ["formula"] [] := (F_normal U).bindsN fun _ _ _ _ _ _ us hl => match us, hl with | [_], _ => rfl
theorem F_check_pool_of (U : Txt K mg A D) : FunD K "check_pool_of" "check_pool_of" (defArgs (topS 20)) (defBody (topS 20)) (defScope (topS 20)) [] [] (A 20) (D 20) := U.F 9 (20, "check_pool_of") rfl
theorem g_check_pool_of (U : Txt K mg A D) : mg "check_pool_of" = some (.ref (A 20)) := U.g 9 (20, "check_pool_of") rfl
theorem b_check_pool_of (U : Txt K mg A D) : Binds K (D 20) ["formula", "value"] [] := (F_check_pool_of U).bindsN fun _ _ _ _ _ _ us hl => match us, hl with | [_, _], _ => rfl
theorem F_amounts_by_name (U : Txt K mg A D) : FunD K "amounts_by_name" "amounts_by_name" (defArgs (topS 21)) (defBody (topS 21)) (defScope (topS 21)) [] [] (A 21) (D 21) := U.F 10 (21, "amounts_by_name") rfl
theorem g_amounts_by_name (U : Txt K mg A D) : mg "amounts_by_name" = some (.ref (A 21)) := U.g 10 (21, "amounts_by_name") rfl
theorem b_amounts_by_name (U : Txt K mg A D) : Binds K (D 21) ["formula", "pool"] [] := (F_amounts_by_name U).bindsN fun _ _ _ _ _ _ us hl => match us, hl with | [_, _], _ => rfl
theorem F_checked_row (U : Txt K mg A D) : FunD K "checked_row" "checked_row" (defArgs (topS 22)) (defBody (topS 22)) (defScope (topS 22)) [] [] (A 22) (D 22) := U.F 11 (22, "checked_row") rfl
theorem g_checked_row (U : Txt K mg A D) : mg "checked_row" = some (.ref (A 22)) := U.g 11 (22, "checked_row") rfl
theorem b_checked_row (U : Txt K mg A D) : Binds K (D 22) ["formula", "pool"] [] := (F_checked_row U).bindsN fun _ _ _ _ _ _ us hl => match us, hl with | [_, _], _ => rfl
theorem F_number_of (U : Txt K mg A D) : FunD K "number_of" "number_of" (defArgs (topS 23)) (defBody (topS 23)) (defScope (topS 23)) [] [] (A 23) (D 23) := U.F 12 (23, "number_of") rfl
theorem g_number_of (U : Txt K mg A D) : mg "number_of" = some (.ref (A 23)) := U.g 12 (23, "number_of") rfl
theorem b_number_of (U : Txt K mg A D) : Binds K (D 23) ["formula", "row"] [] := (F_number_of U).bindsN fun _ _ _ _ _ _ us hl => match us, hl with | [_, _], _ => rfl
theorem F_pieces (U : Txt K mg A D) : FunD K "pieces" "pieces" (defArgs (topS 24)) (defBody (topS 24)) (defScope (topS 24)) [] [] (A 24) (D 24) := U.F 13 (24, "pieces") rfl
theorem g_pieces (U : Txt K mg A D) : mg "pieces" = some (.ref (A 24)) := U.g 13 (24, "pieces") rfl
theorem b_pieces (U : Txt K mg A D) : Binds K (D 24) ["formula", "pool"] [] := (F_pieces U).bindsN fun _ _ _ _ _ _ us hl => match us, hl with | [_, _], _ => rfl
theorem F_target_of (U : Txt K mg A D) : FunD K "target_of" "target_of" (defArgs (topS 25)) (defBody (topS 25)) (defScope (topS 25)) [] [] (A 25) (D 25) := U.F 14 (25, "target_of") rfl
theorem g_target_of (U : Txt K mg A D) : mg "target_of" = some (.ref (A 25)) := U.g 14 (25, "target_of") rfl
theorem b_target_of (U : Txt K mg A D) : Binds K (D 25) ["formula", "row", "name", "many"] [] := (F_target_of U).bindsN fun _ _ _ _ _ _ us hl => match us, hl with | [_, _, _, _], _ => rfl
theorem F_needed (U : Txt K mg A D) : FunD K "needed" "needed" (defArgs (topS 26)) (defBody (topS 26)) (defScope (topS 26)) [] [] (A 26) (D 26) := U.F 15 (26, "needed") rfl
theorem g_needed (U : Txt K mg A D) : mg "needed" = some (.ref (A 26)) := U.g 15 (26, "needed") rfl
theorem b_needed (U : Txt K mg A D) : Binds K (D 26) ["formula", "pool", "kind", "many"] [] := (F_needed U).bindsN fun _ _ _ _ _ _ us hl => match us, hl with | [_, _, _, _], _ => rfl
theorem F_short_kinds (U : Txt K mg A D) : FunD K "short_kinds" "short_kinds" (defArgs (topS 27)) (defBody (topS 27)) (defScope (topS 27)) [] [] (A 27) (D 27) := U.F 16 (27, "short_kinds") rfl
theorem g_short_kinds (U : Txt K mg A D) : mg "short_kinds" = some (.ref (A 27)) := U.g 16 (27, "short_kinds") rfl
theorem b_short_kinds (U : Txt K mg A D) : Binds K (D 27) ["formula", "pool"] [] := (F_short_kinds U).bindsN fun _ _ _ _ _ _ us hl => match us, hl with | [_, _], _ => rfl
theorem F_endless_number (U : Txt K mg A D) : FunD K "endless_number" "endless_number" (defArgs (topS 28)) (defBody (topS 28)) (defScope (topS 28)) [] [] (A 28) (D 28) := U.F 17 (28, "endless_number") rfl
theorem g_endless_number (U : Txt K mg A D) : mg "endless_number" = some (.ref (A 28)) := U.g 17 (28, "endless_number") rfl
theorem b_endless_number (U : Txt K mg A D) : Binds K (D 28) ["formula", "row", "lot"] [] := (F_endless_number U).bindsN fun _ _ _ _ _ _ us hl => match us, hl with | [_, _, _], _ => rfl
theorem F_pieces_with_plenty (U : Txt K mg A D) : FunD K "pieces_with_plenty" "pieces_with_plenty" (defArgs (topS 29)) (defBody (topS 29)) (defScope (topS 29)) [] [] (A 29) (D 29) := U.F 18 (29, "pieces_with_plenty") rfl
theorem g_pieces_with_plenty (U : Txt K mg A D) : mg "pieces_with_plenty" = some (.ref (A 29)) := U.g 18 (29, "pieces_with_plenty") rfl
theorem b_pieces_with_plenty (U : Txt K mg A D) : Binds K (D 29) ["formula", "pool", "lot"] [] := (F_pieces_with_plenty U).bindsN fun _ _ _ _ _ _ us hl => match us, hl with | [_, _, _], _ => rfl
theorem F_cut_formula (U : Txt K mg A D) : FunD K "cut_formula" "cut_formula" (defArgs (topS 31)) (defBody (topS 31)) (defScope (topS 31)) [] [] (A 31) (D 31) := U.F 19 (31, "cut_formula") rfl
theorem g_cut_formula (U : Txt K mg A D) : mg "cut_formula" = some (.ref (A 31)) := U.g 19 (31, "cut_formula") rfl
theorem b_cut_formula (U : Txt K mg A D) : Binds K (D 31) ["formula", "lot", "word"] [] := (F_cut_formula U).bindsN fun _ _ _ _ _ _ us hl => match us, hl with | [_, _, _], _ => rfl
theorem F_normal_cut (U : Txt K mg A D) : FunD K "normal_cut" "normal_cut" (defArgs (topS 32)) (defBody (topS 32)) (defScope (topS 32)) [] [] (A 32) (D 32) := U.F 20 (32, "normal_cut") rfl
theorem g_normal_cut (U : Txt K mg A D) : mg "normal_cut" = some (.ref (A 32)) := U.g 20 (32, "normal_cut") rfl
theorem b_normal_cut (U : Txt K mg A D) : Binds K (D 32) ["formula", "lot", "word"] [] := (F_normal_cut U).bindsN fun _ _ _ _ _ _ us hl => match us, hl with | [_, _, _], _ => rfl
theorem F_formula_lacking (U : Txt K mg A D) : FunD K "formula_lacking" "formula_lacking" (defArgs (topS 33)) (defBody (topS 33)) (defScope (topS 33)) [] [] (A 33) (D 33) := U.F 21 (33, "formula_lacking") rfl
theorem g_formula_lacking (U : Txt K mg A D) : mg "formula_lacking" = some (.ref (A 33)) := U.g 21 (33, "formula_lacking") rfl
theorem b_formula_lacking (U : Txt K mg A D) : Binds K (D 33) ["formula", "lot"] [] := (F_formula_lacking U).bindsN fun _ _ _ _ _ _ us hl => match us, hl with | [_, _], _ => rfl
theorem F_formula_plenty (U : Txt K mg A D) : FunD K "formula_plenty" "formula_plenty" (defArgs (topS 34)) (defBody (topS 34)) (defScope (topS 34)) [] [] (A 34) (D 34) := U.F 22 (34, "formula_plenty") rfl
theorem g_formula_plenty (U : Txt K mg A D) : mg "formula_plenty" = some (.ref (A 34)) := U.g 22 (34, "formula_plenty") rfl
theorem b_formula_plenty (U : Txt K mg A D) : Binds K (D 34) ["formula", "lot"] [] := (F_formula_plenty U).bindsN fun _ _ _ _ _ _ us hl => match us, hl with | [_, _], _ => rfl
theorem F_sides_in (U : Txt K mg A D) : FunD K "sides_in" "sides_in" (defArgs (topS 36)) (defBody (topS 36)) (defScope (topS 36)) [] [] (A 36) (D 36) := U.F 23 (36, "sides_in") rfl
theorem g_sides_in (U : Txt K mg A D) : mg "sides_in" = some (.ref (A 36)) := U.g 23 (36, "sides_in") rfl
theorem b_sides_in (U : Txt K mg A D) : Binds K (D 36) ["formula"] [] := (F_sides_in U).bindsN fun _ _ _ _ _ _ us hl => match us, hl with | [_], _ => rfl
theorem F_all_sides (U : Txt K mg A D) : FunD K "all_sides" "all_sides" (defArgs (topS 37)) (defBody (topS 37)) (defScope (topS 37)) [] [] (A 37) (D 37) := U.F 24 (37, "all_sides") rfl
theorem g_all_sides (U : Txt K mg A D) : mg "all_sides" = some (.ref (A 37)) := U.g 24 (37, "all_sides") rfl
theorem b_all_sides (U : Txt K mg A D) : Binds K (D 37) ["formula"] [] := (F_all_sides U).bindsN fun _ _ _ _ _ _ us hl => match us, hl with | [_], _ => rfl
theorem F_side_number (U : Txt K mg A D) : FunD K "side_number" "side_number" (defArgs (topS 38)) (defBody (topS 38)) (defScope (topS 38)) [V.bl false] [] (A 38) (D 38) := U.F 25 (38, "side_number") rfl
theorem g_side_number (U : Txt K mg A D) : mg "side_number" = some (.ref (A 38)) := U.g 25 (38, "side_number") rfl
theorem F_tight_sides (U : Txt K mg A D) : FunD K "tight_sides" "tight_sides" (defArgs (topS 39)) (defBody (topS 39)) (defScope (topS 39)) [] [] (A 39) (D 39) := U.F 26 (39, "tight_sides") rfl
theorem g_tight_sides (U : Txt K mg A D) : mg "tight_sides" = some (.ref (A 39)) := U.g 26 (39, "tight_sides") rfl
theorem b_tight_sides (U : Txt K mg A D) : Binds K (D 39) ["formula", "pool"] [] := (F_tight_sides U).bindsN fun _ _ _ _ _ _ us hl => match us, hl with | [_, _], _ => rfl
theorem F_l_heap (U : Txt K mg A D) : FunD K "_law_heap" "_law_heap" (defArgs (topS 41)) (defBody (topS 41)) (defScope (topS 41)) [] [] (A 41) (D 41) := U.F 27 (41, "_law_heap") rfl
theorem g_l_heap (U : Txt K mg A D) : mg "_law_heap" = some (.ref (A 41)) := U.g 27 (41, "_law_heap") rfl
theorem b_l_heap (U : Txt K mg A D) : Binds K (D 41) ["_law_script"] [] := (F_l_heap U).bindsN fun _ _ _ _ _ _ us hl => match us, hl with | [_], _ => rfl
theorem F_l_draw (U : Txt K mg A D) : FunD K "_law_draw" "_law_draw" (defArgs (topS 42)) (defBody (topS 42)) (defScope (topS 42)) [] [] (A 42) (D 42) := U.F 28 (42, "_law_draw") rfl
theorem g_l_draw (U : Txt K mg A D) : mg "_law_draw" = some (.ref (A 42)) := U.g 28 (42, "_law_draw") rfl
theorem b_l_draw (U : Txt K mg A D) : Binds K (D 42) ["_law_heap_here", "_law_many"] [] := (F_l_draw U).bindsN fun _ _ _ _ _ _ us hl => match us, hl with | [_, _], _ => rfl
theorem F_l_pick (U : Txt K mg A D) : FunD K "_law_pick" "_law_pick" (defArgs (topS 43)) (defBody (topS 43)) (defScope (topS 43)) [] [] (A 43) (D 43) := U.F 29 (43, "_law_pick") rfl
theorem g_l_pick (U : Txt K mg A D) : mg "_law_pick" = some (.ref (A 43)) := U.g 29 (43, "_law_pick") rfl
theorem b_l_pick (U : Txt K mg A D) : Binds K (D 43) ["_law_heap_here", "_law_some"] [] := (F_l_pick U).bindsN fun _ _ _ _ _ _ us hl => match us, hl with | [_, _], _ => rfl
theorem F_l_names (U : Txt K mg A D) : FunD K "_law_names" "_law_names" (defArgs (topS 44)) (defBody (topS 44)) (defScope (topS 44)) [] [] (A 44) (D 44) := U.F 30 (44, "_law_names") rfl
theorem g_l_names (U : Txt K mg A D) : mg "_law_names" = some (.ref (A 44)) := U.g 30 (44, "_law_names") rfl
theorem b_l_names (U : Txt K mg A D) : Binds K (D 44) ["_law_heap_here", "_law_many"] [] := (F_l_names U).bindsN fun _ _ _ _ _ _ us hl => match us, hl with | [_, _], _ => rfl
theorem F_l_formula (U : Txt K mg A D) : FunD K "_law_formula" "_law_formula" (defArgs (topS 45)) (defBody (topS 45)) (defScope (topS 45)) [] [] (A 45) (D 45) := U.F 31 (45, "_law_formula") rfl
theorem g_l_formula (U : Txt K mg A D) : mg "_law_formula" = some (.ref (A 45)) := U.g 31 (45, "_law_formula") rfl
theorem b_l_formula (U : Txt K mg A D) : Binds K (D 45) ["_law_heap_here", "_law_names_here", "_law_room"] [] := (F_l_formula U).bindsN fun _ _ _ _ _ _ us hl => match us, hl with | [_, _, _], _ => rfl
theorem F_l_sums (U : Txt K mg A D) : FunD K "_law_sums" "_law_sums" (defArgs (topS 46)) (defBody (topS 46)) (defScope (topS 46)) [] [] (A 46) (D 46) := U.F 32 (46, "_law_sums") rfl
theorem g_l_sums (U : Txt K mg A D) : mg "_law_sums" = some (.ref (A 46)) := U.g 32 (46, "_law_sums") rfl
theorem b_l_sums (U : Txt K mg A D) : Binds K (D 46) ["_law_rows", "_law_others"] [] := (F_l_sums U).bindsN fun _ _ _ _ _ _ us hl => match us, hl with | [_, _], _ => rfl
theorem F_l_ways (U : Txt K mg A D) : FunD K "_law_ways" "_law_ways" (defArgs (topS 47)) (defBody (topS 47)) (defScope (topS 47)) [] [] (A 47) (D 47) := U.F 33 (47, "_law_ways") rfl
theorem g_l_ways (U : Txt K mg A D) : mg "_law_ways" = some (.ref (A 47)) := U.g 33 (47, "_law_ways") rfl
theorem b_l_ways (U : Txt K mg A D) : Binds K (D 47) ["_law_formula_here", "_law_kinds"] [] := (F_l_ways U).bindsN fun _ _ _ _ _ _ us hl => match us, hl with | [_, _], _ => rfl
theorem F_l_taken (U : Txt K mg A D) : FunD K "_law_taken" "_law_taken" (defArgs (topS 48)) (defBody (topS 48)) (defScope (topS 48)) [] [] (A 48) (D 48) := U.F 34 (48, "_law_taken") rfl
theorem g_l_taken (U : Txt K mg A D) : mg "_law_taken" = some (.ref (A 48)) := U.g 34 (48, "_law_taken") rfl
theorem b_l_taken (U : Txt K mg A D) : Binds K (D 48) ["_law_ways_here", "_law_pool", "_law_most"] [] := (F_l_taken U).bindsN fun _ _ _ _ _ _ us hl => match us, hl with | [_, _, _], _ => rfl
theorem F_l_turned (U : Txt K mg A D) : FunD K "_law_turned" "_law_turned" (defArgs (topS 49)) (defBody (topS 49)) (defScope (topS 49)) [] [] (A 49) (D 49) := U.F 35 (49, "_law_turned") rfl
theorem g_l_turned (U : Txt K mg A D) : mg "_law_turned" = some (.ref (A 49)) := U.g 35 (49, "_law_turned") rfl
theorem b_l_turned (U : Txt K mg A D) : Binds K (D 49) ["_law_heap_here", "_law_some"] [] := (F_l_turned U).bindsN fun _ _ _ _ _ _ us hl => match us, hl with | [_, _], _ => rfl
theorem F_l_amount (U : Txt K mg A D) : FunD K "_law_amount" "_law_amount" (defArgs (topS 50)) (defBody (topS 50)) (defScope (topS 50)) [] [] (A 50) (D 50) := U.F 36 (50, "_law_amount") rfl
theorem g_l_amount (U : Txt K mg A D) : mg "_law_amount" = some (.ref (A 50)) := U.g 36 (50, "_law_amount") rfl
theorem b_l_amount (U : Txt K mg A D) : Binds K (D 50) ["_law_heap_here"] [] := (F_l_amount U).bindsN fun _ _ _ _ _ _ us hl => match us, hl with | [_], _ => rfl
theorem F_l_number (U : Txt K mg A D) : FunD K "_law_number" "_law_number" (defArgs (topS 51)) (defBody (topS 51)) (defScope (topS 51)) [] [] (A 51) (D 51) := U.F 37 (51, "_law_number") rfl
theorem g_l_number (U : Txt K mg A D) : mg "_law_number" = some (.ref (A 51)) := U.g 37 (51, "_law_number") rfl
theorem b_l_number (U : Txt K mg A D) : Binds K (D 51) ["_law_ways_here", "_law_pool"] [] := (F_l_number U).bindsN fun _ _ _ _ _ _ us hl => match us, hl with | [_, _], _ => rfl
theorem F_l_with (U : Txt K mg A D) : FunD K "_law_with" "_law_with" (defArgs (topS 52)) (defBody (topS 52)) (defScope (topS 52)) [] [] (A 52) (D 52) := U.F 38 (52, "_law_with") rfl
theorem g_l_with (U : Txt K mg A D) : mg "_law_with" = some (.ref (A 52)) := U.g 38 (52, "_law_with") rfl
theorem b_l_with (U : Txt K mg A D) : Binds K (D 52) ["_law_pool", "_law_at", "_law_amount_here"] [] := (F_l_with U).bindsN fun _ _ _ _ _ _ us hl => match us, hl with | [_, _, _], _ => rfl
theorem F_l_lots (U : Txt K mg A D) : FunD K "_law_lots" "_law_lots" (defArgs (topS 53)) (defBody (topS 53)) (defScope (topS 53)) [] [] (A 53) (D 53) := U.F 39 (53, "_law_lots") rfl
theorem g_l_lots (U : Txt K mg A D) : mg "_law_lots" = some (.ref (A 53)) := U.g 39 (53, "_law_lots") rfl
theorem b_l_lots (U : Txt K mg A D) : Binds K (D 53) ["_law_kinds"] [] := (F_l_lots U).bindsN fun _ _ _ _ _ _ us hl => match us, hl with | [_], _ => rfl
theorem F_l_is_least (U : Txt K mg A D) : FunD K "_law_is_least" "_law_is_least" (defArgs (topS 54)) (defBody (topS 54)) (defScope (topS 54)) [] [] (A 54) (D 54) := U.F 40 (54, "_law_is_least") rfl
theorem g_l_is_least (U : Txt K mg A D) : mg "_law_is_least" = some (.ref (A 54)) := U.g 40 (54, "_law_is_least") rfl
theorem b_l_is_least (U : Txt K mg A D) : Binds K (D 54) ["_law_ways_here", "_law_pool", "_law_at", "_law_many", "_law_told"] [] := (F_l_is_least U).bindsN fun _ _ _ _ _ _ us hl => match us, hl with | [_, _, _, _, _], _ => rfl
theorem F_l_needed_right (U : Txt K mg A D) : FunD K "_law_needed_right" "_law_needed_right" (defArgs (topS 55)) (defBody (topS 55)) (defScope (topS 55)) [] [] (A 55) (D 55) := U.F 41 (55, "_law_needed_right") rfl
theorem g_l_needed_right (U : Txt K mg A D) : mg "_law_needed_right" = some (.ref (A 55)) := U.g 41 (55, "_law_needed_right") rfl
theorem b_l_needed_right (U : Txt K mg A D) : Binds K (D 55) ["_law_heap_here", "_law_formula_here", "_law_kinds", "_law_ways_here", "_law_pool"] [] := (F_l_needed_right U).bindsN fun _ _ _ _ _ _ us hl => match us, hl with | [_, _, _, _, _], _ => rfl
theorem F_l_cut (U : Txt K mg A D) : FunD K "_law_cut" "_law_cut" (defArgs (topS 56)) (defBody (topS 56)) (defScope (topS 56)) [] [] (A 56) (D 56) := U.F 42 (56, "_law_cut") rfl
theorem g_l_cut (U : Txt K mg A D) : mg "_law_cut" = some (.ref (A 56)) := U.g 42 (56, "_law_cut") rfl
theorem b_l_cut (U : Txt K mg A D) : Binds K (D 56) ["_law_row", "_law_kinds", "_law_lot"] [] := (F_l_cut U).bindsN fun _ _ _ _ _ _ us hl => match us, hl with | [_, _, _], _ => rfl
theorem F_l_lots_right (U : Txt K mg A D) : FunD K "_law_lots_right" "_law_lots_right" (defArgs (topS 57)) (defBody (topS 57)) (defScope (topS 57)) [] [] (A 57) (D 57) := U.F 43 (57, "_law_lots_right") rfl
theorem g_l_lots_right (U : Txt K mg A D) : mg "_law_lots_right" = some (.ref (A 57)) := U.g 43 (57, "_law_lots_right") rfl
theorem b_l_lots_right (U : Txt K mg A D) : Binds K (D 57) ["_law_heap_here", "_law_formula_here", "_law_kinds", "_law_ways_here", "_law_pool"] [] := (F_l_lots_right U).bindsN fun _ _ _ _ _ _ us hl => match us, hl with | [_, _, _, _, _], _ => rfl
theorem F_l_idle (U : Txt K mg A D) : FunD K "_law_idle" "_law_idle" (defArgs (topS 58)) (defBody (topS 58)) (defScope (topS 58)) [] [] (A 58) (D 58) := U.F 44 (58, "_law_idle") rfl
theorem g_l_idle (U : Txt K mg A D) : mg "_law_idle" = some (.ref (A 58)) := U.g 44 (58, "_law_idle") rfl
theorem b_l_idle (U : Txt K mg A D) : Binds K (D 58) ["_law_kinds", "_law_formula_here"] [] := (F_l_idle U).bindsN fun _ _ _ _ _ _ us hl => match us, hl with | [_, _], _ => rfl
theorem F_l_heard (U : Txt K mg A D) : FunD K "_law_heard" "_law_heard" (defArgs (topS 59)) (defBody (topS 59)) (defScope (topS 59)) [] [] (A 59) (D 59) := U.F 45 (59, "_law_heard") rfl
theorem g_l_heard (U : Txt K mg A D) : mg "_law_heard" = some (.ref (A 59)) := U.g 45 (59, "_law_heard") rfl
theorem b_l_heard (U : Txt K mg A D) : Binds K (D 59) ["_law_work"] [] := (F_l_heard U).bindsN fun _ _ _ _ _ _ us hl => match us, hl with | [_], _ => rfl
theorem F_l_refused_right (U : Txt K mg A D) : FunD K "_law_refused_right" "_law_refused_right" (defArgs (topS 60)) (defBody (topS 60)) (defScope (topS 60)) [] [] (A 60) (D 60) := U.F 46 (60, "_law_refused_right") rfl
theorem g_l_refused_right (U : Txt K mg A D) : mg "_law_refused_right" = some (.ref (A 60)) := U.g 46 (60, "_law_refused_right") rfl
theorem b_l_refused_right (U : Txt K mg A D) : Binds K (D 60) ["_law_heap_here", "_law_formula_here", "_law_kinds", "_law_pool"] [] := (F_l_refused_right U).bindsN fun _ _ _ _ _ _ us hl => match us, hl with | [_, _, _, _], _ => rfl
theorem F_l_flat_right (U : Txt K mg A D) : FunD K "_law_flat_right" "_law_flat_right" (defArgs (topS 61)) (defBody (topS 61)) (defScope (topS 61)) [] [] (A 61) (D 61) := U.F 47 (61, "_law_flat_right") rfl
theorem g_l_flat_right (U : Txt K mg A D) : mg "_law_flat_right" = some (.ref (A 61)) := U.g 47 (61, "_law_flat_right") rfl
theorem b_l_flat_right (U : Txt K mg A D) : Binds K (D 61) ["_law_heap_here"] [] := (F_l_flat_right U).bindsN fun _ _ _ _ _ _ us hl => match us, hl with | [_], _ => rfl
theorem F_law (U : Txt K mg A D) : FunD K "law" "law" (defArgs (topS 62)) (defBody (topS 62)) (defScope (topS 62)) [] [] (A 62) (D 62) := U.F 48 (62, "law") rfl
theorem g_law (U : Txt K mg A D) : mg "law" = some (.ref (A 62)) := U.g 48 (62, "law") rfl
theorem b_law (U : Txt K mg A D) : Binds K (D 62) ["_law_script"] [] := (F_law U).bindsN fun _ _ _ _ _ _ us hl => match us, hl with | [_], _ => rfl
theorem z_len (U : Txt K mg A D) : mg "len" = none := U.z 0 _ rfl
theorem z_sum (U : Txt K mg A D) : mg "sum" = none := U.z 1 _ rfl
theorem z_min (U : Txt K mg A D) : mg "min" = none := U.z 2 _ rfl
theorem z_max (U : Txt K mg A D) : mg "max" = none := U.z 3 _ rfl
theorem z_sorted (U : Txt K mg A D) : mg "sorted" = none := U.z 4 _ rfl
theorem z_tuple (U : Txt K mg A D) : mg "tuple" = none := U.z 5 _ rfl
theorem z_list (U : Txt K mg A D) : mg "list" = none := U.z 6 _ rfl
theorem z_int (U : Txt K mg A D) : mg "int" = none := U.z 7 _ rfl
theorem z_isinstance (U : Txt K mg A D) : mg "isinstance" = none := U.z 8 _ rfl
theorem z_abs (U : Txt K mg A D) : mg "abs" = none := U.z 9 _ rfl
theorem z_all (U : Txt K mg A D) : mg "all" = none := U.z 10 _ rfl
theorem z_any (U : Txt K mg A D) : mg "any" = none := U.z 11 _ rfl
theorem z_repr (U : Txt K mg A D) : mg "repr" = none := U.z 12 _ rfl
theorem z_range (U : Txt K mg A D) : mg "range" = none := U.z 13 _ rfl
theorem z_enumerate (U : Txt K mg A D) : mg "enumerate" = none := U.z 14 _ rfl
theorem z_zip (U : Txt K mg A D) : mg "zip" = none := U.z 15 _ rfl
theorem z_set (U : Txt K mg A D) : mg "set" = none := U.z 16 _ rfl
theorem z_bool (U : Txt K mg A D) : mg "bool" = none := U.z 17 _ rfl
theorem z_str (U : Txt K mg A D) : mg "str" = none := U.z 18 _ rfl
theorem z_super (U : Txt K mg A D) : mg "super" = none := U.z 19 _ rfl
theorem z_ValueError (U : Txt K mg A D) : mg "ValueError" = none := U.z 20 _ rfl
end
end K23
/-! W0: rules whose readings name K itself (so that they stand within a comprehension's block too). -/
namespace K23
open PySem PySem.Spec PyProof.Rows L2
section
variable (K : PySem.W.Frag) {X : Cx}
theorem kx_tup (h : X.K = K := by rfl) : IxR X (rIxT K) := by subst h; exact ix_tup
theorem kx_list (h : X.K = K := by rfl) : IxR X (rIxL K) := by subst h; exact ix_list
theorem kx_seq (h : X.K = K := by rfl) : IxR X (rIx K) := by subst h; exact ix_seq
theorem ki_tup {tg l : Expr} {tl : TE} (hl : PE X l tl) (h : X.K = K := by rfl) : PI X tg l (iTup K tl) := by subst h; exact pi_tup hl
theorem ki_list {tg l : Expr} {tl : TE} (hl : PE X l tl) (h : X.K = K := by rfl) : PI X tg l (iList K tl) := by subst h; exact pi_list hl
theorem ko_in (h : X.K = K := by rfl) : OpR X (compareOp .In) (rIn K false) := by subst h; exact op_in_seq
theorem ko_notIn (h : X.K = K := by rfl) : OpR X (compareOp .NotIn) (rIn K true) := by subst h; exact op_notIn_seq
def rLenQ (K : PySem.W.Frag) : List V → Hp → VK → Prop := fun xs H Q => ∃ p ys, xs = [.ref p] ∧ (SqL K H p ys ∨ SqT K H p ys) ∧ Q (.int ys.length) H
theorem kc_len (h : X.K = K := by rfl) : CallR X (.builtin "len") (rLenQ K) := by subst h; exact call_len_seq
def rListOf (K : PySem.W.Frag) : List V → Hp → VK → Prop := fun xs H Q => ∃ p ys, xs = [.ref p] ∧ (SqL K H p ys ∨ SqT K H p ys) ∧ ∀ l, H l = none → Q (.ref l) (upd H l (.lst ys))
def rTupOf (K : PySem.W.Frag) : List V → Hp → VK → Prop := fun xs H Q => ∃ p ys, xs = [.ref p] ∧ ((SqL K H p ys ∧ ∀ l, H l = none → Q (.ref l) (upd H l (.tup ys))) ∨ (SqT K H p ys ∧ Q (.ref p) H))
theorem kc_list (h : X.K = K := by rfl) : CallR X (.type "list") (rListOf K) := by subst h; exact call_list_of
theorem kc_tuple (h : X.K = K := by rfl) : CallR X (.type "tuple") (rTupOf K) := by subst h; exact call_tuple_of
theorem kc_sum (hc : X.calm = true := by rfl) (h : X.K = K := by rfl) : CallR X (.builtin "sum") (rSum K) := by subst h; exact cr_sum hc
theorem kc_min (hc : X.calm = true := by rfl) (h : X.K = K := by rfl) : CallR X (.builtin "min") (rMin K) := by subst h; exact cr_min hc
theorem kc_max (hc : X.calm = true := by rfl) (h : X.K = K := by rfl) : CallR X (.builtin "max") (rMax K) := by subst h; exact cr_max hc
theorem kc_any (hc : X.calm = true := by rfl) (h : X.K = K := by rfl) : CallR X (.builtin "any") (rAny K) := by subst h; exact cr_any hc
theorem kc_all (hc : X.calm = true := by rfl) (h : X.K = K := by rfl) : CallR X (.builtin "all") (rAll K) := by subst h; exact cr_all hc
theorem kc_sortedS (h : X.K = K := by rfl) : CallR X (.builtin "sorted") (rSortedS K) := by subst h; exact cr_sortedS
theorem kc_isi (h : X.K = K := by rfl) : CallR X (.builtin "isinstance") (rIsi K) := by subst h; exact call_isi
theorem ks_tup (h : X.K = K := by rfl) : SlR X (rSlA K) := by subst h; exact sl_tupA
theorem ks_list (h : X.K = K := by rfl) : SlR X (rSlL K) := by subst h; exact sl_list
theorem ko_cat (h : X.K = K := by rfl) : OpR X (binaryOp .Add) (rCatA K) := by subst h; exact op_catA
theorem ko_eqD (hu : X.A.units + 64 < cLine) (h : X.K = K := by rfl) : OpR X (compareOp .Eq) (rEqD K) := by subst h; exact op_eqD hu
theorem ko_neD (hu : X.A.units + 64 < cLine) (h : X.K = K := by rfl) : OpR X (compareOp .NotEq) (rNeD K) := by subst h; exact op_neD hu
theorem kg_tup {es : List Expr} {k : Nat} {pos : Pos} {t : TGs} {n : Nat} (h : PGs X es t) (hc : X.calm = true := by rfl) (hK : X.K = K := by rfl)
    (hn : (assignEach es X.env).length = n := by rfl) (hst : (assignEach es X.env).findIdx? (·.1) = none := by rfl) : PG X (.Tuple es k pos) (gTup K n t) := by subst hK; exact pg_tup hc h hn hst
theorem ki_zip {e e2 : Expr} {ta : TA} {p pos tpos : Pos} {elts : List Expr} {kk : Nat} (hg : Gl X "zip") (hm : X.mg "zip" = none) (ha : PA X [e, e2] ta) (hK : X.K = K := by rfl)
    (hs : starEach [e, e2] X.env = (false, eval e X.env) :: starEach [e2] X.env := by rfl) (hpl : (backTo pos (starEach [e2] X.env)).any (·.1) = false := by rfl) :
    PI X (.Tuple elts kk tpos) (.Call (.Name "zip" p) [e, e2] [] pos) (RZ.iZipA K ta) := by subst hK; exact RZ.pi_zipA hg hm ha hs hpl
theorem kb_m {name : Str} {T id : String} {o e : Expr} {es : List Expr} {apos cpos : Pos} {to : TE} {t : TA} {r : V → List V → Hp → VK → Prop} (pa : PlainAttrs T) (slot : Slot T name id) (hty : typeOf (.builtin id) = pure (.type "method_descriptor")) (hm : MtR X id r) (ho : PE X o to) (ha : PA X (e :: es) t)
    (hK : X.K = K := by rfl) (hbase : attributeBase o name X.env (eval o X.env) = eval o X.env := by rfl)
    (hfew : ((backTo cpos (starEach (e :: es) X.env)).all (fun x => !x.1) && (backToKw cpos (keywordEach [] X.env)).all (fun x => x.1.isSome)
      && decide ((e :: es).length + ([] : List Keyword).length + (if ([] : List Keyword).isEmpty then 0 else 1) < 30)) = true := by rfl)
    (hline : (apos.endLine == cpos.line) = true := by rfl) (hs : starEach (e :: es) X.env = (false, eval e X.env) :: starEach es X.env := by rfl) (hplain : (backTo cpos (starEach es X.env)).any (·.1) = false := by rfl) :
    PE X (.Call (.Attribute o name apos) (e :: es) [] cpos) (tBM K T r to t) := by subst hK; exact pe_bm pa slot hty hm ho ha hbase hfew hline hs hplain
theorem kb_m0 {name : Str} {T id : String} {o : Expr} {apos cpos : Pos} {to : TE} {r : V → List V → Hp → VK → Prop} (pa : PlainAttrs T) (slot : Slot T name id) (hty : typeOf (.builtin id) = pure (.type "method_descriptor")) (hm : MtR X id r) (ho : PE X o to)
    (hK : X.K = K := by rfl) (hbase : attributeBase o name X.env (eval o X.env) = eval o X.env := by rfl) (hline : (apos.endLine == cpos.line) = true := by rfl) :
    PE X (.Call (.Attribute o name apos) [] [] cpos) (tBM0 K T r to) := by subst hK; exact pe_bm0 pa slot hty hm ho hbase hline
end
theorem pe_revLK (K : PySem.W.Frag) {X : Cx} {e : Expr} {te : TE} {k : Nat} {p1 p2 p3 pos : Pos} (he : PE X e te) (h : X.K = K := by rfl) : PE X (.Subscript e (.Slice none none (some (.UnaryOp .USub (.Constant (.int 1) k p1) p2)) p3) pos) (tRevL K te) := by subst h; exact pe_revL he
/-- a call of a def of the text: what is raised leaves nothing -/
theorem pe_f {X : Cx} {k j : Nat} {f : Addr} {fd : FuncData} {ps : List Str} {sp : Sp} {x : Str} {p pos : Pos} {e : Expr} {es : List Expr} {t : TA} (F : FnOk X.prog X.w X.K X.mg X.base CX0 k f fd ps sp) (hr : Room j X.A) (hj : k ≤ j) (hm : X.mg x = some (.ref f)) (hk : PySem.W.keepIn X.K (.ref f) = true) (hb : Binds X.K fd ps [])
    (ha : PA X (e :: es) t) (hg : Gl X x := by rfl) (hdb : (x == ("__debug__" : Str)) = false := by decide) (he : starEach (e :: es) X.env = (false, eval e X.env) :: starEach es X.env := by rfl) (hpl : (backTo pos (starEach es X.env)).any (·.1) = false := by rfl) :
    PE X (.Call (.Name x p) (e :: es) [] pos) (tCall sp [] E0 t) := pe_call F (hr.mono hj) hg hm hk hb .nil pass0 ha hdb he hpl
/-- the same, with defaults -/
theorem pe_fd {X : Cx} {k j : Nat} {f : Addr} {fd : FuncData} {ps : List Str} {sp : Sp} {x : Str} {p pos : Pos} {e : Expr} {es : List Expr} {t : TA} {dvs : List V} {ds : List Value} (F : FnOk X.prog X.w X.K X.mg X.base CX0 k f fd ps sp) (hr : Room j X.A) (hj : k ≤ j) (hm : X.mg x = some (.ref f)) (hk : PySem.W.keepIn X.K (.ref f) = true) (hb : Binds X.K fd ps ds) (hd : Vals dvs ds)
    (ha : PA X (e :: es) t) (hg : Gl X x := by rfl) (hdb : (x == ("__debug__" : Str)) = false := by decide) (he : starEach (e :: es) X.env = (false, eval e X.env) :: starEach es X.env := by rfl) (hpl : (backTo pos (starEach es X.env)).any (·.1) = false := by rfl) :
    PE X (.Call (.Name x p) (e :: es) [] pos) (tCall sp dvs E0 t) := pe_call F (hr.mono hj) hg hm hk hb hd pass0 ha hdb he hpl
end K23
set_option maxHeartbeats 2000000
/-! E1: the __init__ of an own exception class that calls super().__init__('..') and keeps one word. -/
namespace K23
open PySem PySem.Spec PyProof.Rows L2
/-- self.f alone is kept -/
def spInit (C : Addr) (f : Str) : Sp := fun vs H Q _ => ∃ (a : Addr) (v : V), vs = [.ref a, v] ∧ H a = some (exo a C none) ∧
  ∀ dx, H dx = none → dx ≠ a → Q .non (upd (upd H dx (exd dx [(f, v)])) a (exo a C (some dx)))
section
variable {prog : Program} {w : World} {A : Around} {E : Value → Shared → Prop} {h : Heap} {g : Array GenState} {d : Drawn} {t : Nat} {os : OsState}
theorem run_bound {nm q : Str} {C N u e t0 : Addr} {bs bm : List Value} {sn : List Str} {sub : List Value} {ab : Bool} {col : Option Bool} {dd : Option Addr} {k0 k1 k2 k3 k5 : Option Value} {us : List Value} {Q : Value → Shared → Prop}
    (hC : h.get? C = some (excClassObj nm q C N bs bm true sn sub ab col dd k0 k1 k2 k3 k5 "ValueError.__new__")) (he : h.get? e = some (HandSPX.excO C t0))
    (hu : h.get? u = some (PySem.W.kxs_mw "ValueError.__init__" e)) (few : us.length ≤ sizeLine)
    (hq : ∀ h' t1, (∀ b o, b ≠ e → h.get? b = some o → h'.get? b = some o) → h'.get? e = some (HandSPX.excO C t1) → Q .none ⟨h', g, d, t, os⟩) :
    wpAny (model prog w) A (call (.ref u) us) Q E ⟨h, g, d, t, os⟩ := by
  refine wpAny_call (codeAny_of_tree ?_)
  show wpAny _ (A.in1) (callAny (.ref u) (Args.mk us [])) _ _ (Shared.mk h g d t os)
  simp only [callAny]
  refine wpAny_bind (wpAny_load hu ?_)
  have isW : (Value.type "method-wrapper" == Value.type "method" || Value.type "method-wrapper" == Value.type "builtin_function_or_method" || Value.type "method-wrapper" == Value.type "method-wrapper") = true := by decide
  simp only [PySem.W.kxs_mw, isW, if_true]
  refine PySem.W.KFB.if_so (by decide) ?_
  refine wpAny_bind (ESX.check_bound F.excBase_ValueError hC he rfl ?_)
  refine wpAny_bind (wpAny_pure (wpAny_pure ?_))
  refine ⟨plainId_quiet F.excBase_ValueError.init.plain _, codeAny_builtin F.excBase_ValueError.initEntry ?_⟩
  exact PySem.W.exc_init_tree (cls := .ref C) (t0 := t0) (dv := none) (c2 := .none) (c3 := .none) (b4 := .bool false) he few fun h' k e' _ => hq h' _ k e'
end
abbrev iBody (m f : Str) (j : Nat) (p0 p1 p2 p3 p4 p5 p6 p7 p8 p9 : Pos) : List Stmt :=
  [.Expr (.Call (.Attribute (.Call (.Name "super" p0) [] [] p1) "__init__" p2) [.Constant (.str m) j p3] [] p4) p5, .Assign [.Attribute (.Name "self" p6) f p7] (.Name f p8) p9]
theorem ok_init {P : Program} {w : World} {K : PySem.W.Frag} {mg : Str → Option Value} {base : Heap} {CX : CXT} {C fI cc cda : Addr} {name qual m file : Str} {j : Nat} {p0 p1 p2 p3 p4 p5 p6 p7 p8 p9 : Pos} {params : Arguments} {ar : Arg} {scope : Scope}
    {dV kV doc pm ct oc ccl cl : Value} {an od cdd cld : Option Addr} {osl ccs csl : Array (Option Value)} {vs : Array Value} {tf : Tok}
    (T : OexC K C) (lk : K.lookup fI = some ⟨oc, od, .func (PySem.W.ksFn name qual params (iBody m "word" j p0 p1 p2 p3 p4 p5 p6 p7 p8 p9) scope dV kV doc pm an (.ref cda) ct cc), osl⟩)
    (hcd : PySem.W.codeIn K (.ref cda) qual = true) (hcode : K.lookup cda = some ⟨ccl, cdd, .fields vs, ccs⟩) (hvs : vs[2]? = some (.str file tf)) (hfile : ((P.main.file : Str) == file) = true)
    (hcell : K.lookup cc = some ⟨cl, cld, .cell (some (.ref C)), csl⟩) (hsuper : mg "super" = none) (htop : (P.main.scope.names.lookup ("super" : Str)).isSome = false)
    (hm : PySem.W.ks_superIn K C C "__init__" = some (some (.builtin "ValueError.__init__"))) (hB : PySem.W.subIn K (.ref C) (.type "ValueError") = some true) (hsub : PySem.W.mroIn K C (.ref C) = some true) (ho : PySem.W.nsIn K cStatics "thirdparty.any" = some none)
    (hno : PySem.W.findIn K (.ref C) "word" = some none) (hp : (params.posonlyargs ++ params.args).head? = some ar) (hself : ar.arg = "self")
    (hks : scope.names.lookup ("super" : Str) = some .globalImplicit) (hkc : scope.names.lookup ("__class__" : Str) = some .free) (hka : scope.names.lookup ("self" : Str) = some .local) (hkf : scope.names.lookup ("word" : Str) = some .local)
    (hcl : ∀ x ∈ scope.names, x.2 ≠ .cell) (hk : scope.kind = .function) (hco : scope.isCoroutine = false) (hgen : scope.isGenerator = false)
    (hsw : ∀ env : Env, swapsWith (.Name "word" p8) (some (.Attribute (.Name "self" p6) "word" p7)) p9.line env = pure false) (hss : ∀ env : Env, swapsWith (.Call (.Attribute (.Call (.Name "super" p0) [] [] p1) "__init__" p2) [.Constant (.str m) j p3] [] p4) none p5.line env = pure false)
    (hev : ∀ env : Env, ∃ pl : Sem Bool, eval (.Call (.Attribute (.Call (.Name "super" p0) [] [] p1) "__init__" p2) [.Constant (.str m) j p3] [] p4) env = (do
      let ov ← attributeBase (.Call (.Name "super" p0) [] [] p1) "__init__" env (eval (.Call (.Name "super" p0) [] [] p1) env)
      standAt p2.atName
      let (f, first) ← holding [ov] (getMethod ov "__init__" pl)
      callWith p4 f first (backTo p4 (starEach [.Constant (.str m) j p3] env)) [])) :
    FnOk P w K mg base CX 1 fI (PySem.W.ksFn name qual params (iBody m "word" j p0 p1 p2 p3 p4 p5 p6 p7 p8 p9) scope dV kV doc pm an (.ref cda) ct cc) ["self", "word"] (spInit C "word") := by
  refine ⟨fun vs H Q E h => by obtain ⟨_, _, rfl, _⟩ := h; rfl, fun A outer s H args us vs Q E hr e0 hb r h => ?_⟩
  obtain ⟨a, v, rfl, ha, q⟩ := h
  obtain ⟨hp0, gens, dr, tk, os⟩ := s
  obtain ⟨nm, qn, N, bs, bm, sn, sub, ab, col, dd, k0, k1, k2, k3, k5, hC, hbm⟩ := T.cls
  cases r with
  | @cons _ u0 _ ur ra rw' =>
    obtain rfl : u0 = Value.ref a := ra
    cases rw' with
    | @cons _ u _ ur2 rv rn =>
      cases rn
      have KX : K.In hp0 := e0.mod.kin.keeps fun b o e => (e0.bs b o e).1
      have lim : hp0.NoLimit := e0.mod.nolimit.keeps fun b o e => (e0.bs b o e).1
      obtain ⟨t1, hx⟩ := exo_at e0.hok ha
      have hax : a < hp0.objs.size := Heap.lt_size hx
      have hcls : PySem.W.clsIn K C = some { name := nm, bases := bs, mro := .ref C :: bm, ns := N, qualname := qn, hasDict := true, slotNames := sn, subclasses := sub, abstract := ab, collection := col, hasDel := false } := by
        unfold PySem.W.clsIn; rw [hC] <;> rfl
      refine PySem.ks_codeAny_call_defAt hr.depth (KX _ _ lk) rfl lim (PySem.W.codeRec_of KX hcd) rfl hb hcl (fun x hx => ?_) (fun h₁ hns hk₁ => ?_) hco hgen hk
      · rcases List.mem_cons.mp hx with e | hx
        · rw [e]; exact hka
        · rw [List.mem_singleton.mp hx]; exact hkf
      have K1 := KX.keeps hk₁
      obtain ⟨pl, hpl⟩ := hev (callEnv (PySem.W.ksFn name qual params (iBody m "word" j p0 p1 p2 p3 p4 p5 p6 p7 p8 p9) scope dV kV doc pm an (.ref cda) ct cc) hp0.objs.size fI)
      refine PySem.ks_wpAt_execs_cons (PySem.ks_wpAt_Expr_any (PySem.ks_wpAt_MethodCall (pl := pl) ?_ hpl) (by unfold interactive; simp [callEnv, newEnv, hk]) (hss _))
      refine PySem.ks_wpAt_super_base (ar := ar) hks hkc rfl rfl (K1 _ _ lk) rfl hp rfl (K1 _ _ hcode) rfl hvs hfile htop ?_
      obtain ⟨mb, b1, b2⟩ := e0.mod.blt
      have bk1 : ∀ b o, base.get? b = some o → h₁.get? b = some o := fun b o e => hk₁ b o (e0.bs b o e).1
      refine PySem.W.ks_loadName_global hk hks (Calls.loadGlobal_builtin (e0.mod.glob.keeps bk1) hsuper (b1.keeps bk1) ((b2 _ (by decide)).trans (by rfl)) ⟨rfl, ?_⟩)
      refine wpAny_loadName_free hk hkc rfl ⟨_, K1 _ _ hcell, rfl⟩ ?_
      rw [hself]
      refine wpAny_loadName_local (v := .ref a) hk hka hns rfl ?_
      refine PySem.ks_wpAny_isType_cls (K1 _ _ hC) rfl ⟨rfl, ?_⟩
      refine PySem.ks_wpAny_call_super (K1 _ _ hC) rfl (hk₁ _ _ hx) rfl (fun c e => by cases e) (PySem.W.looks_mroIn K1 hsub) (fun h₂ so2 k2 => ?_)
      have K2 := K1.keeps k2
      have I2 : PySem.W.InstAt h₂ a (HandSPX.excO C t1) C none := ⟨k2 _ _ (hk₁ _ _ hx), rfl, rfl, trivial⟩
      have hm2 := hm
      unfold PySem.W.ks_superIn at hm2
      rw [hcls, Option.bind_some] at hm2
      refine PySem.W.kxs_getMethod PySem.W.kxs_ValueError so2 (PySem.W.looks_opaque K2 ho) (l₀ := .ref C :: bm) (fun A Q E s k q => wpAny_bind ((PySem.W.looks_clsIn K2 hcls) A _ E s k (wpAny_pure q))) rfl K2 hm2
        (I2.type.andThen (PySem.W.looks_subIn K2 hB)) (PySem.W.ks_ne K2 I2 hcls) rfl ?_
      have k3 : ∀ b o, h₂.get? b = some o → (h₂.push (PySem.W.kxs_mw "ValueError.__init__" a)).get? b = some o := fun b o e => Heap.get?_push_of_some _ e
      refine PySem.W.kxs_callWith (i := "ValueError.__init__") (x := a) rfl (Calls.evalArgs_plain (Calls.spliced_cons (wpAny_Constant_str (k := j) (pos := p3) (Calls.spliced_nil ⟨Heap.get?_push_at rfl rfl, ?_⟩))))
      refine run_bound (K2.keeps k3 _ _ hC) (k3 _ _ I2.at_) (Heap.get?_push_at rfl rfl) (by rw [sizeLine_eq]; simp) fun h₄ t2 k4 e4 => ?_
      have hin : ∀ b o, b ≠ a → hp0.get? b = some o → h₄.get? b = some o := fun b o n e => k4 b o n (k3 b o (k2 b o (hk₁ b o e)))
      have aC : a ≠ C := PySem.W.ks_ne K2 I2 hcls
      have base4 : base.get? a = none := by
        cases z : base.get? a with
        | none => rfl
        | some o =>
          have := (e0.bs a o z).2
          rw [ha] at this
          cases this
      have K4 : K.In h₄ := fun b o e => k4 b o (fun z => by rw [z] at e; rw [e0.mod.kin _ _ e] at base4; cases base4) (k3 b o (K2 b o e))
      obtain ⟨oL, es, ep, hL, rL⟩ := hns
      have aL : hp0.objs.size ≠ a := fun z => Nat.lt_irrefl _ (z ▸ hax)
      have ns4 : h₄.Ns hp0.objs.size (fun x => ([("self", Value.ref a), ("word", u)] : List (Str × Value)).reverse.lookup x) := ⟨oL, es, ep, k4 _ _ aL (k3 _ _ (k2 _ _ hL)), rL⟩
      refine PySem.ks_wpAt_execs_cons (wpAt_of_wpAny (plainObj_wpAny_Assign_Attribute ?_ (hsw _)))
      refine wpAny_Name (wpAny_loadName_local hk hkf ns4 rfl (wpAny_Name (wpAny_loadName_local hk hka ns4 rfl ?_) rfl)) rfl
      refine PySem.W.set_plain K4 (ox := HandSPX.excO C t2) (od := none) ⟨e4, rfl, rfl, trivial⟩ T.sa ?_
      refine HandSPX.exc_osa K4 e4 hcls hbm rfl hno (fun h5 tk5 dx k5 dn dne hx5 hn5 => ?_)
      refine wpAt_of_wpAny (wpAny_execs_nil ?_)
      have hin5 : ∀ b o, b ≠ a → hp0.get? b = some o → h5.get? b = some o := fun b o n e => k5 b o n (hin b o n e)
      have big : hp0.objs.size ≤ dx := by
        have l1 : hp0.objs.size < h₄.objs.size := Heap.lt_size (k4 _ _ aL (k3 _ _ (k2 _ _ hL)))
        exact Nat.le_of_lt (Nat.lt_of_lt_of_le l1 dn)
      have nd : H dx = none := e0.hok.fresh big
      have noD : ∀ {b : Addr} {o : Obj}, hp0.get? b = some o → b ≠ dx := fun {b o} q => Nat.ne_of_lt (Nat.lt_of_lt_of_le (Heap.lt_size q) big)
      have noA : ∀ {b : Addr}, H b = none → b ≠ a := fun {b} n z => by
        rw [z, ha] at n
        cases n
      refine ⟨.non, upd (upd H dx (exd dx [("word", v)])) a (exo a C (some dx)), rfl, e0.bare, ?_, ?_, rfl, q dx nd dne⟩
      · exact {
          keep := fun b o q n _ _ => hin5 b o (noA n) q
          slot := fun b o q n _ _ => ⟨o.slots, hin5 b o (noA n) q⟩
          free := fun b o q n _ => (upd_ne (noA n)).trans ((upd_ne (noD q)).trans n)
          there := fun b o q _ => if z : b = a then ⟨_, z ▸ hx5⟩ else ⟨o, hin5 b o z q⟩
          tups := fun b xs q => (upd_ne (at_ne ha q exo_tup)).trans ((upd_ne (ne_of_none q nd)).trans q)
          frzs := fun b o v q => (upd_ne (at_ne ha q exo_frz)).trans ((upd_ne (ne_of_none q nd)).trans q)
          tbls := fun b ps q => ⟨#[], by rw [upd_ne (at_ne ha q exo_tbl), upd_ne (ne_of_none q nd), q]; simp⟩ }
      · intro b o e
        by_cases z : b = a
        · subst z
          rw [upd_same] at e
          cases e
          exact exo_ok hx5
        by_cases z2 : b = dx
        · rw [upd_ne z, z2, upd_same] at e
          cases e
          rw [z2]
          exact exd_ok hn5 (relO_put (fs := []) rv fun g => True.intro)
        rw [upd_ne z, upd_ne z2] at e
        refine (e0.hok b o e).stay (fun c v hc y => hin5 c v ?_ y) (fun c hc => (upd_ne (at_ne ha hc exo_own)).trans ((upd_ne (ne_of_none hc nd)).trans hc)) fun c xs hc => (upd_ne (at_ne ha hc exo_tup)).trans ((upd_ne (ne_of_none hc nd)).trans hc)
        rcases hc with hc | hc
        · rw [hc]; exact z
        · exact at_ne ha hc exo_own
end K23
set_option maxHeartbeats 2000000
/-! E2d: a text is never equal to a dict. -/
namespace K23
open PySem PySem.Spec PyProof.Rows L2 PySem.SeqAt PySem.MeetsSeq
theorem dict_declines (l : Addr) (es : Array DictEntry) (ep : Nat) (dd : Option Addr) (sl : Array (Option Value)) (b : Str) (u : Tok) :
    Meets (Builtin.«dict.__eq__» ⟨[.ref l, .str b u], []⟩) (fun _ R s => s.heap.get? l = some { cls := .type "dict", dict := dd, data := .dict es ep, slots := sl } ∧ R (.ok (.ret .notImplemented)) s) :=
  .of_wp fun prog w A R s h => by
    obtain ⟨hp, g, d, tk, os⟩ := s
    obtain ⟨hl, h⟩ := h
    have f1 := F.sub_str_dict
    wp_walk using wpAny_loadPart' hl
    exact ⟨_, rfl, h⟩
theorem str_declines (l : Addr) (es : Array DictEntry) (ep : Nat) (dd : Option Addr) (sl : Array (Option Value)) (b : Str) (u : Tok) :
    Meets (Builtin.«str.__eq__» ⟨[.str b u, .ref l], []⟩) (fun _ R s => s.heap.get? l = some { cls := .type "dict", dict := dd, data := .dict es ep, slots := sl } ∧ R (.ok (.ret .notImplemented)) s) :=
  .of_wp fun prog w A R s h => by
    obtain ⟨hp, g, d, tk, os⟩ := s
    obtain ⟨hl, h⟩ := h
    wp_walk using wpAny_loadPart' hl
    exact ⟨_, rfl, h⟩
theorem eq_str_dict {A : Around} {s : Shared} {l : Addr} {es : Array DictEntry} {ep : Nat} (b : Str) (u : Tok) (hl : ∃ o, s.heap.get? l = some o ∧ o.cls = .type "dict" ∧ o.data = .dict es ep) (hu : A.units < cLine) : EqAt A s (.str b u) (.ref l) false := fun prog w E Q h => by
  have rc : RcAt A s (.str b u) (.ref l) false := fun prog w E Q h => by
    obtain ⟨⟨cls, dd, data, sl⟩, ho, hc, hd⟩ := id hl
    simp only at hc hd
    subst hc hd
    exact rc_eq_decline_or (k := false) (typeIs_str s b u) ⟨_, ho, rfl⟩ (by decide) F.sub_dict_str F.slot_str_eq F.slot_dict_eq_refl
      (fun _ hq => call_meets F.slot_str_eq (typeIs_str s b u) F.entry_str_eq (F.args_str_eq_2 _ _) (str_declines l es ep dd sl b u) ⟨ho, hq⟩)
      (fun _ hq => call_meets F.slot_dict_eq_refl ⟨_, ho, rfl⟩ F.entry_dict_eq (F.args_dict_eq_2 _ _) (dict_declines l es ep dd sl b u) ⟨ho, hq⟩)
      (fun _ hq => wpAny_of_eq (rfl : isSame (.str b u) (.ref l) = pure false) hq) (.inr hu) h
  unfold eqBool
  refine wpAny_holding ?_
  refine wpAny_ite_split (fun hab => absurd (eq_of_beq hab) nofun) (fun _ => ?_)
  exact wpAny_bind (rc prog w E _ (wpAny_truthy_bool h))
end K23
/-! L2: readings of comprehensions and of tests, over data. -/
namespace K23
open PySem PySem.Spec PyProof.Rows L2
section
variable {T : Tl} {K : PySem.W.Frag} {α β : Type}
theorem take_snoc {xs : List α} {i : Nat} {a : α} (h : xs[i]? = some a) : xs.take (i + 1) = xs.take i ++ [a] := by
  rw [List.take_add_one, h]; rfl
theorem get_of_len {xs : List V} {as : List α} (hl : as.length = xs.length) {j : Nat} (h : j < xs.length) : ∃ a x, as[j]? = some a ∧ xs[j]? = some x :=
  ⟨as[j]'(by omega), xs[j], List.getElem?_eq_getElem (by omega), List.getElem?_eq_getElem h⟩
theorem sz_ok {n : Nat} (h : n ≤ 100000) : n ≤ sizeLine := Nat.le_trans h (by decide)
theorem sz_lt {n : Nat} (h : n < 100000) : n < sizeLine := Nat.lt_of_lt_of_le h (by decide)
/-- a list comprehension over what stands, each turn by data -/
theorem map_core {J : It} {n : Nat} {G : Hp → Prop} {Y : Nat → Hp → V → Hp → Prop} {g : TG} {tt : TT} {te : TE} {vs : List Nat} {σ : L2.St} {H1 : Hp} {D : Addr} {Qd : Hp → Prop} {as : List α} (F : α → Option PyData)
    (w : Walk J n G Y) (hl : as.length = n) (hn : n ≤ 100000) (hG : ∀ H', Ex T H1 H' → G H') (hD : H1 D = none)
    (hs : ∀ j a x H' H'' (E : VK) (N : Hp → Prop), as[j]? = some a → Ex T H1 H' → (∃ acc, H' D = some (.lst acc)) → Y j H' x H'' →
      (F a = none → ∀ H3, Ex T H' H3 → N H3) → (∀ d, F a = some d → ∀ y H4, Ex T H' H4 → (∀ o, Dp K (upd H4 D (.lst o)) y d) → E y H4) →
      g x (wipe σ vs) H'' fun σ2 H2 => wipe σ2 vs = wipe σ vs ∧ tt σ2 H2 fun b H3 => if b = true then te σ2 H3 E else N H3)
    (hd : ∀ ys H', Ex T H1 H' → H' D = some (.lst ys) → DpAll K H' ys (as.filterMap F) → Qd H') :
    ∃ W : Nat → Nat → Hp → Prop, (∃ m, W 0 m (upd H1 D (.lst []))) ∧ ∀ i m H, W i m H →
      (J.stop i H ∧ Qd H) ∨ (J.go i H ∧ ∃ Nx : Hp → Prop, (∀ H', Nx H' → ∃ m', m' < m ∧ W (i + 1) m' H') ∧ ∀ x H', J.yld i H x H' → g x (wipe σ vs) H' fun σ2 H2 => wipe σ2 vs = wipe σ vs ∧ tt σ2 H2 fun b H3 =>
        if b = true then te σ2 H3 fun y H4 => ∃ acc, H4 D = some (.lst acc) ∧ acc.length < sizeLine ∧ Nx (upd H4 D (.lst (acc ++ [y]))) else Nx H3) := by
  have sq : ∀ {H4 : Hp} {acc : List V}, H4 D = some (.lst acc) → ∀ {H' : Hp} {ys : List V} {ds : List PyData}, Ex T H' H4 → H' D = some (.lst acc) → (∀ o, DpAll K (upd H' D (.lst o)) ys ds) → ∀ o, DpAll K (upd H4 D (.lst o)) ys ds := by
    intro H4 acc h4 H' ys ds e h' hy o
    refine dpa_mono ⟨fun a xs q => ?_, fun a xs q => ?_⟩ _ _ (hy o)
    · rcases q with (q | ⟨u, q⟩) | q
      · by_cases ha : a = D
        · subst ha; rw [upd_same] at q; cases q
        · rw [upd_ne ha] at q
          exact .inl (.inl (by rw [upd_ne ha]; exact e.tup q))
      · by_cases ha : a = D
        · subst ha; rw [upd_same] at q; cases q
        · rw [upd_ne ha] at q
          exact .inl (.inr ⟨u, by rw [upd_ne ha]; exact e.keep _ _ q fun _ z => by cases z⟩)
      · exact .inr q
    · rcases q with (q | ⟨u, q⟩) | q
      · by_cases ha : a = D
        · subst ha; rw [upd_same] at q; cases q
          exact .inl (.inl upd_same)
        · rw [upd_ne ha] at q
          exact .inl (.inl (by rw [upd_ne ha]; exact e.lst q))
      · by_cases ha : a = D
        · subst ha; rw [upd_same] at q; cases q
        · rw [upd_ne ha] at q
          exact .inl (.inr ⟨u, by rw [upd_ne ha]; exact e.keep _ _ q fun _ z => by cases z⟩)
      · exact .inr q
  refine lc_it w (fun i H => Ex T H1 H ∧ ∃ acc, H D = some (.lst acc) ∧ acc.length ≤ i ∧ ∀ o, DpAll K (upd H D (.lst o)) acc ((as.take i).filterMap F)) ?_ ?_ ?_ ?_
  · exact ⟨Ex.new hD, [], upd_same, Nat.le_refl _, fun o => .nil⟩
  · intro i H _ h; exact hG _ h.1
  · rintro i x H H' hi ⟨e, acc, h1, h2, h3⟩ hy
    obtain ⟨a, ha⟩ : ∃ a, as[i]? = some a := ⟨as[i]'(by omega), List.getElem?_eq_getElem (by omega)⟩
    refine hs i a x H H' _ _ ha e ⟨acc, h1⟩ hy ?_ ?_
    · intro hF H3 e3
      have h13 := e3.lst h1
      refine ⟨e.trans e3, acc, h13, by omega, ?_⟩
      rw [take_snoc ha, List.filterMap_append, show [a].filterMap F = [] by rw [List.filterMap_cons, hF]; rfl, List.append_nil]
      exact sq h13 e3 h1 h3
    · intro d hF y H4 e4 hy
      have h14 := e4.lst h1
      refine ⟨acc, h14, sz_lt (by omega), ?_, acc ++ [y], upd_same, by rw [List.length_append, List.length_singleton]; omega, ?_⟩
      · exact (e.trans e4).mutL hD h14
      · intro o
        rw [upd_upd, take_snoc ha, List.filterMap_append, show [a].filterMap F = [d] by rw [List.filterMap_cons, hF]; rfl]
        exact dpa_snoc (sq h14 e4 h1 h3 o) (hy o)
  · rintro H ⟨e, acc, h1, h2, h3⟩
    have h4 := h3 acc
    rw [show as.take n = as by rw [← hl]; exact List.take_length] at h4
    exact hd acc H e h1 (dpa_mono ⟨fun a xs q => by
      rcases q with (q | ⟨u, q⟩) | q
      · by_cases ha : a = D
        · subst ha; rw [upd_same] at q; cases q
        · rw [upd_ne ha] at q; exact .inl (.inl q)
      · by_cases ha : a = D
        · subst ha; rw [upd_same] at q; cases q
        · rw [upd_ne ha] at q; exact .inl (.inr ⟨u, q⟩)
      · exact .inr q, fun a xs q => by
      rcases q with (q | ⟨u, q⟩) | q
      · by_cases ha : a = D
        · subst ha; rw [upd_same] at q; cases q; exact .inl (.inl h1)
        · rw [upd_ne ha] at q; exact .inl (.inl q)
      · by_cases ha : a = D
        · subst ha; rw [upd_same] at q; cases q
        · rw [upd_ne ha] at q; exact .inl (.inr ⟨u, q⟩)
      · exact .inr q⟩ _ _ h4)
theorem dp_updL {H : Hp} {D : Addr} {acc : List V} (h : H D = some (.lst acc)) {y : V} {d : PyData} (f : flatD d = true) (hy : Dp K H y d) (u : HO) : Dp K (upd H D u) y d :=
  dp_monoT (tup_updL h) _ _ f hy
/-- without what stands at D -/
def hide (H : Hp) (D : Addr) : Hp := fun a => if a = D then none else H a
theorem hide_same {H : Hp} {D : Addr} : hide H D D = none := by unfold hide; rw [if_pos rfl]
theorem hide_ne {H : Hp} {D a : Addr} (h : a ≠ D) : hide H D a = H a := by unfold hide; rw [if_neg h]
theorem hide_back {H : Hp} {D a : Addr} {o : HO} (h : hide H D a = some o) : a ≠ D ∧ H a = some o := by
  by_cases e : a = D
  · subst e; rw [hide_same] at h; cases h
  · exact ⟨e, by rw [hide_ne e] at h; exact h⟩
theorem Ex.hid {H H' : Hp} {D : Addr} {acc : List V} (e : Ex T H H') (h : H D = none) (h' : H' D = some (.lst acc)) : Ex T H (hide H' D) := by
  refine ⟨fun a o ha n => by rw [hide_ne (ne_of_none ha h)]; exact e.keep a o ha n, fun t q hq => ?_⟩
  obtain ⟨ps, h1, h2, h3⟩ := e.tabs t q hq
  have np : q.1 ≠ D := fun z => by rw [z, h'] at h1; cases h1
  refine ⟨ps, by rw [hide_ne np]; exact h1, h2, fun pos cv hc => ?_⟩
  obtain ⟨c, e1, e2⟩ := h3 pos cv hc
  have nc : c ≠ D := fun z => by rw [z, h'] at e2; exact codeO_lst (Option.some.inj e2)
  exact ⟨c, e1, by rw [hide_ne nc]; exact e2⟩
theorem Ex.of_hide {H : Hp} {D : Addr} : Ex T (hide H D) H := .of fun b o h => (hide_back h).2
theorem dp_hide {H : Hp} {D : Addr} {acc : List V} (h : H D = some (.lst acc)) {y : V} {d : PyData} (f : flatD d = true) (hy : Dp K H y d) : Dp K (hide H D) y d :=
  dp_monoT (fun a xs q => by
    rcases q with (q | ⟨u, q⟩) | q
    · exact .inl (.inl (by rw [hide_ne (fun z => by rw [z, h] at q; cases q)]; exact q))
    · exact .inl (.inr ⟨u, by rw [hide_ne (fun z => by rw [z, h] at q; cases q)]; exact q⟩)
    · exact .inr q) _ _ f hy
theorem paired_snoc {γ δ : Type} {S : γ → δ → Prop} {y : γ} {d : δ} : ∀ {ys : List γ} {ds : List δ}, Paired S ys ds → S y d → Paired S (ys ++ [y]) (ds ++ [d])
  | _, _, .nil, h => .cons h .nil
  | _, _, .cons h1 h2, h => .cons h1 (paired_snoc h2 h)
theorem paired_get {γ δ : Type} {S : γ → δ → Prop} : ∀ {ys : List γ} {ds : List δ} {i : Nat} {y : γ} {d : δ}, Paired S ys ds → ys[i]? = some y → ds[i]? = some d → S y d
  | _, _, _, _, _, .nil, h, _ => by simp at h
  | _, _, 0, _, _, .cons h1 _, h, h' => by
    have e := Option.some.inj h
    have e' := Option.some.inj h'
    subst e; subst e'; exact h1
  | _, _, i + 1, _, _, .cons _ h2, h, h' => paired_get (i := i) h2 h h'
/-- lists stay -/
def KeepL (H H' : Hp) : Prop := ∀ a xs, H a = some (.lst xs) → H' a = some (.lst xs)
/-- without the lists that B knows -/
def newer (B H : Hp) : Hp := fun a => match B a with
  | some (.lst _) => none
  | _ => H a
theorem newer_back {B H : Hp} {a : Addr} {o : HO} (h : newer B H a = some o) : H a = some o ∧ ∀ xs, B a ≠ some (.lst xs) := by
  unfold newer at h
  split at h
  · cases h
  · next n => exact ⟨h, fun xs z => n xs z⟩
theorem newer_of {B H : Hp} {a : Addr} (h : ∀ xs, B a ≠ some (.lst xs)) : newer B H a = H a := by
  unfold newer
  split
  · next xs e => exact absurd e (h xs)
  · rfl
theorem newer_fr {B H : Hp} {a : Addr} (h : Fr B a) : newer B H a = H a := newer_of fun xs z => by
  obtain ⟨ps, e⟩ := h _ z; cases e
theorem newer_keep {B H H' : Hp} (e : KeepL H H') : KeepL (newer B H) (newer B H') := fun a xs h => by
  obtain ⟨h1, h2⟩ := newer_back h
  rw [newer_of h2]; exact e a xs h1
theorem Ex.keepL {H H' : Hp} (e : Ex T H H') : KeepL H H' := fun a xs h => e.lst h
/-- what B' knows beyond B is hidden too -/
theorem newer_mono {B B' H : Hp} (h : ∀ a xs, B a = some (.lst xs) → ∃ ys, B' a = some (.lst ys)) : KeepL (newer B' H) (newer B H) := fun a xs q => by
  obtain ⟨h1, h2⟩ := newer_back q
  rw [newer_of fun ys z => by obtain ⟨zs, e⟩ := h a ys z; exact h2 zs e]; exact h1
/-- a comprehension of two for -/
theorem flat_core {J : It} {n : Nat} {G : Hp → Prop} {Y : Nat → Hp → V → Hp → Prop} {g g1 : TG} {wi1 : TI} {te : TE} {vs vs1 : List Nat} {σ : L2.St} {H1 : Hp} {D : Addr} {Qd : Hp → Prop} {as : List α} (F : α → List β)
    (R : Hp → V → β → Prop) (hR : ∀ H H' y d, KeepL H H' → R H y d → R H' y d)
    (w : Walk J n G Y) (hl : as.length = n) (hn : (as.flatMap F).length ≤ 100000) (hG : ∀ H', Ex T H1 H' → G H') (hD : H1 D = none)
    (hs : ∀ j a x H' H'' (C : L2.St → It → Hp → Prop), as[j]? = some a → Ex T H1 H' → (∃ acc, H' D = some (.lst acc)) → Y j H' x H'' →
      (∀ σ2 J1 G1 Y1 H4, Ex T H' H4 → Walk J1 (F a).length G1 Y1 → (∀ H5, Ex T (hide H4 D) H5 → G1 H5) →
        (∀ j1 d x1 H5 H6 (E : VK), (F a)[j1]? = some d → Ex T (hide H4 D) H5 → (∃ acc, H5 D = some (.lst acc)) → Y1 j1 H5 x1 H6 →
          (∀ y H7, Ex T H5 H7 → R (newer (upd H1 D (.lst [])) H7) y d → E y H7) → g1 x1 (wipe σ2 vs1) H6 fun σ3 H8 => wipe σ3 vs1 = wipe σ2 vs1 ∧ te σ3 H8 E) → C σ2 J1 H4) →
      g x (wipe σ vs) H'' fun σ2 H2 => wipe σ2 vs = wipe σ vs ∧ wi1 σ2 H2 (C σ2))
    (hd : ∀ ys H', Ex T H1 H' → H' D = some (.lst ys) → Paired (R (newer (upd H1 D (.lst [])) H')) ys (as.flatMap F) → Qd H') :
    ∃ W : Nat → Nat → Hp → Prop, (∃ m, W 0 m (upd H1 D (.lst []))) ∧ ∀ i m H, W i m H →
      (J.stop i H ∧ Qd H) ∨ (J.go i H ∧ ∃ Nx : Hp → Prop, (∀ H', Nx H' → ∃ m', m' < m ∧ W (i + 1) m' H') ∧ ∀ x H', J.yld i H x H' → g x (wipe σ vs) H' fun σ2 H2 => wipe σ2 vs = wipe σ vs ∧ tYes σ2 H2 fun b H3 =>
        if b = true then wi1 σ2 H3 fun J1 H4 => ∃ W1 : Nat → Nat → Hp → Prop, (∃ m, W1 0 m H4) ∧ ∀ j k H, W1 j k H →
          (J1.stop j H ∧ Nx H) ∨ (J1.go j H ∧ ∃ Nx1 : Hp → Prop, (∀ H', Nx1 H' → ∃ k', k' < k ∧ W1 (j + 1) k' H') ∧ ∀ x H', J1.yld j H x H' → g1 x (wipe σ2 vs1) H' fun σ3 H5 => wipe σ3 vs1 = wipe σ2 vs1 ∧ tYes σ3 H5 fun b H6 =>
            if b = true then te σ3 H6 fun y H7 => ∃ acc, H7 D = some (.lst acc) ∧ acc.length < sizeLine ∧ Nx1 (upd H7 D (.lst (acc ++ [y]))) else Nx1 H6)
        else Nx H3) := by
  let B : Hp := upd H1 D (.lst [])
  have hB : B D = some (.lst []) := upd_same
  have hh : ∀ H7 u, newer B (upd H7 D u) = newer B H7 := fun H7 u => by
    funext b
    by_cases hb : b = D
    · subst hb; unfold newer; rw [hB]
    · unfold newer
      split
      · rfl
      · rw [upd_ne hb]
  have mono : ∀ {H H' : Hp} {ys : List V} {ds : List β}, KeepL H H' → Paired (R (newer B H)) ys ds → Paired (R (newer B H')) ys ds := fun e p => Paired.mapP p fun y d h => hR _ _ y d (newer_keep e) h
  let I : Nat → Hp → Prop := fun i H => Ex T H1 H ∧ ∃ acc, H D = some (.lst acc) ∧ Paired (R (newer B H)) acc ((as.take i).flatMap F)
  refine ⟨fun i m H => i + m = n ∧ I i H, ⟨n, by omega, Ex.new hD, [], upd_same, .nil⟩, fun i m H hW => ?_⟩
  obtain ⟨em, e, acc, h1, h2⟩ := hW
  by_cases hi : i < n
  · refine .inr ⟨w.goes i H hi (hG _ e), I (i + 1), fun H' q => ⟨m - 1, by omega, by omega, q⟩, fun x H' hy => ?_⟩
    obtain ⟨a, ha⟩ : ∃ a, as[i]? = some a := ⟨as[i]'(by omega), List.getElem?_eq_getElem (by omega)⟩
    have ht : (as.take (i + 1)).flatMap F = (as.take i).flatMap F ++ F a := by
      rw [take_snoc ha, List.flatMap_append, List.flatMap_singleton]
    have hle : ((as.take i).flatMap F).length + (F a).length ≤ 100000 := by
      have e2 : as = as.take (i + 1) ++ as.drop (i + 1) := (List.take_append_drop _ _).symm
      have e3 : (as.flatMap F).length = ((as.take (i + 1)).flatMap F).length + ((as.drop (i + 1)).flatMap F).length := by
        conv => lhs; rw [e2, List.flatMap_append, List.length_append]
      rw [ht, List.length_append] at e3
      omega
    refine hs i a x H H' (fun σ2 J1 H4 => ∃ W1 : Nat → Nat → Hp → Prop, (∃ m, W1 0 m H4) ∧ ∀ j k H, W1 j k H →
          (J1.stop j H ∧ I (i + 1) H) ∨ (J1.go j H ∧ ∃ Nx1 : Hp → Prop, (∀ H', Nx1 H' → ∃ k', k' < k ∧ W1 (j + 1) k' H') ∧ ∀ x H', J1.yld j H x H' → g1 x (wipe σ2 vs1) H' fun σ3 H5 => wipe σ3 vs1 = wipe σ2 vs1 ∧ tYes σ3 H5 fun b H6 =>
            if b = true then te σ3 H6 fun y H7 => ∃ acc, H7 D = some (.lst acc) ∧ acc.length < sizeLine ∧ Nx1 (upd H7 D (.lst (acc ++ [y]))) else Nx1 H6)) ha e ⟨acc, h1⟩ (w.yields i H x H' hi (hG _ e) hy) ?_
    intro σ2 J1 G1 Y1 H4 e4 w1 hG1 hs1
    have h41 := e4.lst h1
    have e14 : Ex T H1 (hide H4 D) := (e.trans e4).hid hD h41
    let I1 : Nat → Hp → Prop := fun j H' => Ex T (hide H4 D) H' ∧ ∃ acc', H' D = some (.lst acc') ∧ Paired (R (newer B H')) acc' ((as.take i).flatMap F ++ (F a).take j)
    refine ⟨fun j k H' => j + k = (F a).length ∧ I1 j H', ⟨(F a).length, by omega, Ex.of_hide, acc, h41, ?_⟩, fun j k H' hW => ?_⟩
    · rw [List.take_zero, List.append_nil]; exact mono e4.keepL h2
    obtain ⟨ek, e5, acc', h51, h52⟩ := hW
    by_cases hj : j < (F a).length
    · refine .inr ⟨w1.goes j H' hj (hG1 _ e5), I1 (j + 1), fun H'' q => ⟨k - 1, by omega, by omega, q⟩, fun x1 H6 hy1 => ?_⟩
      obtain ⟨d, hd'⟩ : ∃ d, (F a)[j]? = some d := ⟨(F a)[j], List.getElem?_eq_getElem hj⟩
      refine hs1 j d x1 H' H6 (fun y H7 => ∃ acc, H7 D = some (.lst acc) ∧ acc.length < sizeLine ∧ I1 (j + 1) (upd H7 D (.lst (acc ++ [y])))) hd' e5 ⟨acc', h51⟩ (w1.yields j H' x1 H6 hj (hG1 _ e5) hy1) ?_
      intro y H7 e7 hy7
      have h71 := e7.lst h51
      have la : acc'.length < 100000 := by
        have q := h52.length
        rw [List.length_append, List.length_take] at q
        omega
      refine ⟨acc', h71, sz_lt la, (e5.trans e7).mutL hide_same h71, acc' ++ [y], upd_same, ?_⟩
      rw [hh, take_snoc hd', ← List.append_assoc]
      exact paired_snoc (mono e7.keepL h52) hy7
    · refine .inl ⟨?_, e14.trans e5, acc', h51, ?_⟩
      · rw [show j = (F a).length by omega]; exact w1.stops _ (hG1 _ e5)
      · rw [show (F a).take j = F a from List.take_of_length_le (by omega)] at h52
        rw [ht]; exact h52
  · refine .inl ⟨?_, hd acc H e h1 ?_⟩
    · rw [show i = n by omega]; exact w.stops _ (hG _ e)
    · rw [show as.take i = as from List.take_of_length_le (by omega)] at h2
      exact h2
theorem flat_snoc : ∀ {ds : List PyData} {d : PyData}, flatDs ds = true → flatD d = true → flatDs (ds ++ [d]) = true
  | [], d, _, h => by rw [List.nil_append, flatDs, flatDs, h]; rfl
  | x :: r, d, h, h' => by
    rw [flatDs, Bool.and_eq_true] at h
    rw [List.cons_append, flatDs, h.1, flat_snoc h.2 h']; rfl
/-- a comprehension whose items are not told one by one: each bears R -/
theorem map_rel {J : It} {n : Nat} {G : Hp → Prop} {Y : Nat → Hp → V → Hp → Prop} {g : TG} {te : TE} {vs : List Nat} {σ : L2.St} {H1 : Hp} {D : Addr} {Qd : Hp → Prop} {as : List α} (R : α → PyData → Prop)
    (w : Walk J n G Y) (hl : as.length = n) (hn : n ≤ 100000) (hG : ∀ H', Ex T H1 H' → G H') (hD : H1 D = none) (hf : ∀ a d, R a d → flatD d = true)
    (hs : ∀ j a x H' H'' (E : VK), as[j]? = some a → Ex T H1 H' → Y j H' x H'' →
      (∀ d, R a d → ∀ y H4, Ex T H' H4 → Dp K H4 y d → E y H4) →
      g x (wipe σ vs) H'' fun σ2 H2 => wipe σ2 vs = wipe σ vs ∧ te σ2 H2 E)
    (hd : ∀ ys H' ds, Ex T H1 H' → H' D = some (.lst ys) → Paired R as ds → DpAll K H' ys ds → Qd H') :
    ∃ W : Nat → Nat → Hp → Prop, (∃ m, W 0 m (upd H1 D (.lst []))) ∧ ∀ i m H, W i m H →
      (J.stop i H ∧ Qd H) ∨ (J.go i H ∧ ∃ Nx : Hp → Prop, (∀ H', Nx H' → ∃ m', m' < m ∧ W (i + 1) m' H') ∧ ∀ x H', J.yld i H x H' → g x (wipe σ vs) H' fun σ2 H2 => wipe σ2 vs = wipe σ vs ∧ tYes σ2 H2 fun b H3 =>
        if b = true then te σ2 H3 fun y H4 => ∃ acc, H4 D = some (.lst acc) ∧ acc.length < sizeLine ∧ Nx (upd H4 D (.lst (acc ++ [y]))) else Nx H3) := by
  refine lc_it w (fun i H => Ex T H1 H ∧ ∃ acc ds, H D = some (.lst acc) ∧ acc.length ≤ i ∧ Paired R (as.take i) ds ∧ flatDs ds = true ∧ DpAll K H acc ds) ?_ ?_ ?_ ?_
  · exact ⟨Ex.new hD, [], [], upd_same, Nat.le_refl _, .nil, rfl, .nil⟩
  · intro i H _ h; exact hG _ h.1
  · rintro i x H H' hi ⟨e, acc, ds, h1, h2, h3, h4, h5⟩ hy
    obtain ⟨a, ha⟩ : ∃ a, as[i]? = some a := ⟨as[i]'(by omega), List.getElem?_eq_getElem (by omega)⟩
    refine hs i a x H H' _ ha e hy ?_
    intro d hR y H4 e4 hyd
    have h14 := e4.lst h1
    refine ⟨acc, h14, sz_lt (by omega), (e.trans e4).mutL hD h14, acc ++ [y], ds ++ [d], upd_same, by rw [List.length_append, List.length_singleton]; omega, ?_, ?_, ?_⟩
    · rw [take_snoc ha]; exact paired_snoc h3 hR
    · exact flat_snoc h4 (hf a d hR)
    · exact dpa_snoc (dpa_monoT (tup_updL h14) _ _ h4 (e4.dpa h5)) (dp_monoT (tup_updL h14) _ _ (hf a d hR) hyd)
  · rintro H ⟨e, acc, ds, h1, h2, h3, h4, h5⟩
    rw [show as.take n = as by rw [← hl]; exact List.take_length] at h3
    exact hd acc H ds e h1 h3 h5
/-! ### over a tuple, a list of data; over a range -/
section
variable {e : α → PyData} {c : Addr} {us : List V} {g : TG} {tt : TT} {te : TE} {vs : List Nat} {σ : L2.St} {H1 : Hp} {D : Addr} {Qd : Hp → Prop} {as : List α}
theorem at_dat {H : Hp} (h : DpAll K H us (as.map e)) {j : Nat} {a : α} {x : V} (ha : as[j]? = some a) (hx : us[j]? = some x) : Dp K H x (e a) := by
  obtain ⟨d, h1, h2⟩ := dpa_val h hx
  rw [List.getElem?_map, ha] at h1
  rw [show e a = d from Option.some.inj h1]; exact h2
theorem map_tup (hc : SqT K H1 c us) (hu : DpAll K H1 us (as.map e)) (F : α → Option PyData) (hn : as.length ≤ 100000) (hD : H1 D = none)
    (hs : ∀ a x H' (E : VK) (N : Hp → Prop), a ∈ as → Ex T H1 H' → Dp K H' x (e a) → (F a = none → ∀ H3, Ex T H' H3 → N H3) → (∀ d, F a = some d → ∀ y H4, Ex T H' H4 → flatD d = true → Dp K H4 y d → E y H4) →
      g x (wipe σ vs) H' fun σ2 H2 => wipe σ2 vs = wipe σ vs ∧ tt σ2 H2 fun b H3 => if b = true then te σ2 H3 E else N H3)
    (hd : ∀ ys H', Ex T H1 H' → H' D = some (.lst ys) → DpAll K H' ys (as.filterMap F) → Qd H') :
    ∃ W : Nat → Nat → Hp → Prop, (∃ m, W 0 m (upd H1 D (.lst []))) ∧ ∀ i m H, W i m H →
      ((Itt K c).stop i H ∧ Qd H) ∨ ((Itt K c).go i H ∧ ∃ Nx : Hp → Prop, (∀ H', Nx H' → ∃ m', m' < m ∧ W (i + 1) m' H') ∧ ∀ x H', (Itt K c).yld i H x H' → g x (wipe σ vs) H' fun σ2 H2 => wipe σ2 vs = wipe σ vs ∧ tt σ2 H2 fun b H3 =>
        if b = true then te σ2 H3 fun y H4 => ∃ acc, H4 D = some (.lst acc) ∧ acc.length < sizeLine ∧ Nx (upd H4 D (.lst (acc ++ [y]))) else Nx H3) := by
  have hl : as.length = us.length := by rw [dpa_len hu, List.length_map]
  refine map_core (T := T) (K := K) F walk_tup hl (by omega) (fun H' x => x.st hc) hD ?_ hd
  rintro j a x H' H'' E N ha ex ⟨acc, hacc⟩ ⟨rfl, hx⟩ h1 h2
  exact hs a x H'' E N (List.mem_of_getElem? ha) ex (ex.dp (at_dat hu ha hx)) h1 fun d hF y H4 e4 f hy => h2 d hF y H4 e4 fun o => dp_updL (e4.lst hacc) f hy _
theorem map_lst (hc : SqL K H1 c us) (hu : DpAll K H1 us (as.map e)) (F : α → Option PyData) (hn : as.length ≤ 100000) (hD : H1 D = none)
    (hs : ∀ a x H' (E : VK) (N : Hp → Prop), a ∈ as → Ex T H1 H' → Dp K H' x (e a) → (F a = none → ∀ H3, Ex T H' H3 → N H3) → (∀ d, F a = some d → ∀ y H4, Ex T H' H4 → flatD d = true → Dp K H4 y d → E y H4) →
      g x (wipe σ vs) H' fun σ2 H2 => wipe σ2 vs = wipe σ vs ∧ tt σ2 H2 fun b H3 => if b = true then te σ2 H3 E else N H3)
    (hd : ∀ ys H', Ex T H1 H' → H' D = some (.lst ys) → DpAll K H' ys (as.filterMap F) → Qd H') :
    ∃ W : Nat → Nat → Hp → Prop, (∃ m, W 0 m (upd H1 D (.lst []))) ∧ ∀ i m H, W i m H →
      ((Itl K c).stop i H ∧ Qd H) ∨ ((Itl K c).go i H ∧ ∃ Nx : Hp → Prop, (∀ H', Nx H' → ∃ m', m' < m ∧ W (i + 1) m' H') ∧ ∀ x H', (Itl K c).yld i H x H' → g x (wipe σ vs) H' fun σ2 H2 => wipe σ2 vs = wipe σ vs ∧ tt σ2 H2 fun b H3 =>
        if b = true then te σ2 H3 fun y H4 => ∃ acc, H4 D = some (.lst acc) ∧ acc.length < sizeLine ∧ Nx (upd H4 D (.lst (acc ++ [y]))) else Nx H3) := by
  have hl : as.length = us.length := by rw [dpa_len hu, List.length_map]
  refine map_core (T := T) (K := K) F walk_list hl (by omega) (fun H' x => x.sl hc) hD ?_ hd
  rintro j a x H' H'' E N ha ex ⟨acc, hacc⟩ ⟨rfl, hx⟩ h1 h2
  exact hs a x H'' E N (List.mem_of_getElem? ha) ex (ex.dp (at_dat hu ha hx)) h1 fun d hF y H4 e4 f hy => h2 d hF y H4 e4 fun o => dp_updL (e4.lst hacc) f hy _
theorem map_rng {n : Nat} (F : Nat → Option PyData) (hn : n ≤ 100000) (hD : H1 D = none)
    (hs : ∀ a x H' (E : VK) (N : Hp → Prop), a < n → Ex T H1 H' → x = .int (a : Int) → (F a = none → ∀ H3, Ex T H' H3 → N H3) → (∀ d, F a = some d → ∀ y H4, Ex T H' H4 → flatD d = true → Dp K H4 y d → E y H4) →
      g x (wipe σ vs) H' fun σ2 H2 => wipe σ2 vs = wipe σ vs ∧ tt σ2 H2 fun b H3 => if b = true then te σ2 H3 E else N H3)
    (hd : ∀ ys H', Ex T H1 H' → H' D = some (.lst ys) → DpAll K H' ys ((List.range n).filterMap F) → Qd H') :
    ∃ W : Nat → Nat → Hp → Prop, (∃ m, W 0 m (upd H1 D (.lst []))) ∧ ∀ i m H, W i m H →
      ((Itr 0 n).stop i H ∧ Qd H) ∨ ((Itr 0 n).go i H ∧ ∃ Nx : Hp → Prop, (∀ H', Nx H' → ∃ m', m' < m ∧ W (i + 1) m' H') ∧ ∀ x H', (Itr 0 n).yld i H x H' → g x (wipe σ vs) H' fun σ2 H2 => wipe σ2 vs = wipe σ vs ∧ tt σ2 H2 fun b H3 =>
        if b = true then te σ2 H3 fun y H4 => ∃ acc, H4 D = some (.lst acc) ∧ acc.length < sizeLine ∧ Nx (upd H4 D (.lst (acc ++ [y]))) else Nx H3) := by
  refine map_core (T := T) (K := K) (as := List.range n) F walk_range List.length_range hn (fun H' x => trivial) hD ?_ hd
  rintro j a x H' H'' E N ha ex ⟨acc, hacc⟩ ⟨rfl, hx⟩ h1 h2
  have h3 : j < n := by
    have := (List.getElem?_eq_some_iff.mp ha).1
    rw [List.length_range] at this; exact this
  have h4 : a = j := by
    rw [List.getElem?_range h3] at ha; exact (Option.some.inj ha).symm
  subst h4
  exact hs a x H'' E N h3 ex (by rw [hx]; show V.int (0 + (a : Int)) = V.int (a : Int); rw [Int.zero_add]) h1 fun d hF y H4 e4 f hy => h2 d hF y H4 e4 fun o => dp_updL (e4.lst hacc) f hy _
end
theorem fm_some {β : Type} (F : α → β) (as : List α) : as.filterMap (fun a => some (F a)) = as.map F := by
  induction as with
  | nil => rfl
  | cons a r ih => rw [List.filterMap_cons, ih]; rfl
theorem fm_filter {β : Type} (p : α → Bool) (F : α → β) (as : List α) : as.filterMap (fun a => if p a then some (F a) else none) = (as.filter p).map F := by
  induction as with
  | nil => rfl
  | cons a r ih =>
    rw [List.filterMap_cons, ih, List.filter_cons]
    cases p a <;> rfl
theorem in_strs (s : Str) (ns : List Str) : inV (.str s) (ns.map V.str) = decide (s ∈ ns) := by
  unfold inV
  induction ns with
  | nil => rfl
  | cons x r ih =>
    rw [List.map_cons, List.any_cons, ih, show eqV (V.str x) (V.str s) = (x == s) from rfl]
    by_cases h : s = x
    · subst h; simp
    · have : (x == s) = false := beq_eq_false_iff_ne.mpr fun z => h z.symm
      simp [this, h]
theorem flat_strs (ns : List Str) : (ns.map V.str).all flatV = true := List.all_eq_true.mpr fun x hx => by
  obtain ⟨s, _, rfl⟩ := List.mem_map.mp hx; rfl
/-! ### tests of a formula's word -/
theorem if_dec {p : Prop} [Decidable p] {A B : Prop} (h1 : p → A) (h2 : ¬ p → B) : if decide p = true then A else B := by
  by_cases h : p
  · rw [if_pos (decide_eq_true h)]; exact h1 h
  · rw [if_neg (by rw [decide_eq_false h]; decide)]; exact h2 h
/-- formula[0] == 'x' -/
theorem at_word {H : Hp} {σ : L2.St} {i : Nat} {a : Addr} {x y : Str} {r : List V} {Q : VK} (hσ : σ[i]? = some (some (.ref a))) (ha : SqT K H a (.str x :: r)) (h : Q (.bl (decide (x = y))) H) :
    tOp rEq (tOp (rIxT K) (tVar i) (tC (.int 0))) (tC (.str y)) σ H Q := by
  refine ⟨_, hσ, a, _, 0, .str x, rfl, rfl, ha, atI_nat (j := 0) rfl, rfl, ?_⟩
  rw [show decide (V.str x = V.str y) = decide (x = y) from decide_eq_decide.mpr ⟨fun z => V.str.inj z, fun z => by rw [z]⟩]
  exact h
theorem test_word {H : Hp} {σ : L2.St} {i : Nat} {a : Addr} {x y : Str} {r : List V} {Q : Bool → Hp → Prop} (hσ : σ[i]? = some (some (.ref a))) (ha : SqT K H a (.str x :: r)) (h : Q (decide (x = y)) H) :
    tTest (tOp rEq (tOp (rIxT K) (tVar i) (tC (.int 0))) (tC (.str y))) σ H Q := at_word hσ ha ⟨_, rfl, h⟩
theorem if_word {H : Hp} {σ : L2.St} {i : Nat} {a : Addr} {x y : Str} {r : List V} {D : Ends} {t u : TS} (hσ : σ[i]? = some (some (.ref a))) (ha : SqT K H a (.str x :: r)) (h1 : x = y → t D σ H) (h2 : x ≠ y → u D σ H) :
    tIfS (tTest (tOp rEq (tOp (rIxT K) (tVar i) (tC (.int 0))) (tC (.str y)))) t u D σ H := test_word hσ ha (if_dec h1 h2)
theorem n_mk : ("many" : Str) ≠ "kind" := by decide +kernel
theorem n_ak : ("and" : Str) ≠ "kind" := by decide +kernel
theorem n_ok : ("or" : Str) ≠ "kind" := by decide +kernel
theorem n_am : ("and" : Str) ≠ "many" := by decide +kernel
theorem n_om : ("or" : Str) ≠ "many" := by decide +kernel
theorem n_oa : ("or" : Str) ≠ "and" := by decide +kernel
theorem n_nk (b : Bool) : (if b then "and" else "or" : Str) ≠ "kind" := by cases b <;> decide +kernel
theorem n_nm (b : Bool) : (if b then "and" else "or" : Str) ≠ "many" := by cases b <;> decide +kernel
end
end K23
/-! W1: names_in, kinds_of, number_of. -/
namespace K23
open PySem PySem.Spec PyProof.Rows L2
/-! ### formulas that are asked about -/
def IsNm (s : Str) : Prop := 1 ≤ s.length ∧ s.length ≤ 5 ∧ ∀ c ∈ s.cps.toList, 97 ≤ c ∧ c ≤ 122
theorem names_kind {α : Type} (s : α) : (Fm.kind s).names = [s] := by rw [Fm.names]
theorem names_many {α : Type} (n : Nat) (p : Fm α) : (Fm.many n p).names = p.names := by rw [Fm.names]
theorem names_node {α : Type} (b : Bool) (ps : List (Fm α)) : (Fm.node b ps).names = ps.flatMap Fm.names := by rw [Fm.names, namesL_eq]
theorem sub_flatMap {α β : Type} {F : α → List β} : ∀ {ps : List α} {p : α}, p ∈ ps → (F p).Sublist (ps.flatMap F)
  | [], _, h => by cases h
  | x :: r, p, h => by
    rw [List.flatMap_cons]
    rcases List.mem_cons.mp h with rfl | h
    · exact List.sublist_append_left _ _
    · exact (sub_flatMap h).trans (List.sublist_append_right _ _)
theorem names_part {α : Type} {b : Bool} {ps : List (Fm α)} {p : Fm α} (h : p ∈ ps) : p.names.Sublist (Fm.node b ps).names := by
  rw [names_node]; exact sub_flatMap h
theorem Wf.mono {α : Type} {f : Fm α} : ∀ {B B' : Nat}, B ≤ B' → Wf B f → Wf B' f := by
  induction f using Fm.ind with
  | hk s => intro B B' h; rw [Wf.kind, Wf.kind]; omega
  | hm n p ih =>
    intro B B' h
    rw [Wf.many, Wf.many]
    exact fun ⟨h1, h2, h3⟩ => ⟨h1, Nat.le_trans h2 h, ih (Nat.div_le_div_right h) h3⟩
  | hn b ps ih =>
    intro B B' h
    rw [Wf.node, Wf.node]
    exact fun ⟨h1, h2⟩ => ⟨h1, fun p hp => ih p hp h (h2 p hp)⟩
structure FmOk (f : Fm Str) : Prop where
  wf : Wf 12 f
  nd : f.names.Nodup
  few : f.names.length ≤ 8
  nm : ∀ s ∈ f.names, IsNm s
theorem FmOk.many {n : Nat} {p : Fm Str} (h : FmOk (.many n p)) : FmOk p := by
  have e : (Fm.many n p).names = p.names := names_many n p
  refine ⟨Wf.mono (Nat.div_le_self _ _) (Wf.many.mp h.wf).2.2, ?_, ?_, ?_⟩
  · rw [← e]; exact h.nd
  · rw [← e]; exact h.few
  · rw [← e]; exact h.nm
theorem FmOk.two {n : Nat} {p : Fm Str} (h : FmOk (.many n p)) : 2 ≤ n ∧ n ≤ 12 := ⟨(Wf.many.mp h.wf).1, (Wf.many.mp h.wf).2.1⟩
theorem FmOk.part {b : Bool} {ps : List (Fm Str)} (h : FmOk (.node b ps)) {p : Fm Str} (hp : p ∈ ps) : FmOk p := by
  have s : p.names.Sublist (Fm.node b ps).names := names_part hp
  exact ⟨(Wf.node.mp h.wf).2 p hp, h.nd.sublist s, Nat.le_trans s.length_le h.few, fun x hx => h.nm x (s.subset hx)⟩
theorem FmOk.parts {b : Bool} {ps : List (Fm Str)} (h : FmOk (.node b ps)) : 2 ≤ ps.length := (Wf.node.mp h.wf).1
section
variable {T : Tl} {P : Program} {w : World} {K : PySem.W.Frag} {mg : Str → Option Value} {base : Heap} {A : Nat → Addr} {D : Nat → FuncData}
theorem paired_strs : ∀ {ys : List V} {ss : List Str}, Paired (fun (y : V) (s : Str) => y = .str s) ys ss → ys = ss.map V.str
  | _, _, .nil => rfl
  | _, _, .cons h1 h2 => by rw [h1, paired_strs h2]; rfl
/-! ### names_in -/
def spNames (T : Tl) (K : PySem.W.Frag) (n : Nat) : Sp := fun vs H Q _ => ∃ (v : V) (f : Fm Str), vs = [v] ∧ Dp K H v (enc f) ∧ FmOk f ∧ depth f < n ∧
  ∀ H' p, Fr H p → Ex T H H' → H' p = some (.lst (f.names.map V.str)) → Q (.ref p) H'
theorem ok_names_in (U : Txt K mg A D) : ∀ n, FnOk P w K mg base CX0 n (A 14) (D 14) ["formula"] (spNames T K n)
  | 0 => ⟨fun vs H Q E h => by obtain ⟨_, _, _, _, _, h, _⟩ := h; omega, fun _ _ _ H _ _ vs Q E _ _ _ _ h => by obtain ⟨_, _, _, _, _, h, _⟩ := h; omega⟩
  | n + 1 => by
    have G_names_in : FnOk P w K mg base CX0 n (A 14) (D 14) ["formula"] (spNames T K n) := ok_names_in U n
    refine (F_names_in U).ok sc_names_in (fun vs H Q E h => by obtain ⟨_, _, rfl, _⟩ := h; rfl) (fun cdv A' outer s H vs Q E hr h => ?_)
    obtain ⟨v, f, rfl, hv, hok, hdep, q⟩ := h
    refine ⟨_, PSs.nox (pss_cons
      (ps_if (pt_cmpR op_eq (pe_ix (kx_tup K) (pv 0) pe_int (fun _ _ => rfl)) pe_str (nomark _))
       (pss_one
       (ps_ret (pe_lst (pa_cons (pe_ix (kx_tup K) (pv 0) pe_int (fun _ _ => rfl)) pa_nil))))
       pss_nil)
      (pss_cons
      (ps_if (pt_cmpR op_eq (pe_ix (kx_tup K) (pv 0) pe_int (fun _ _ => rfl)) pe_str (nomark _))
       (pss_one
       (ps_ret (pe_f G_names_in hr (by omega) (g_names_in U) (F_names_in U).kp (b_names_in U) (pa_cons (pe_ix (kx_tup K) (pv 0) pe_int (fun _ _ => rfl)) pa_nil))))
       pss_nil)
      (pss_one
      (ps_ret (pe_lc2 (g := gName 1) (tt := tYes) (g1 := gName 2) (tt1 := tYes) rfl sc_names_in.nd (ki_tup K (pe_ix (kx_tup K) (pv 0) pe_int (fun _ _ => rfl))) (blkOk_by (N := N_names_in) (own := [("part", 1), ("name", 2)]) (by kernel_rfl)) (vs1 := [2]) (by decide) (fun _ _ _ _ _ => (pg_name (i := 1) sc_names_in.nd rfl (.inl rfl))) (fun _ _ _ _ _ => pts_nil) (fun _ _ _ _ _ => (ki_list K (pe_f G_names_in hr (by omega) (g_names_in U) (F_names_in U).kp (b_names_in U) (pa_cons (pv 1) pa_nil)))) (fun _ _ _ _ _ => (pg_name (i := 2) sc_names_in.nd rfl (.inl rfl))) (fun _ _ _ _ _ => pts_nil) (fun _ _ _ _ _ => (pv 2))))))), ?_⟩
    cases f with
    | kind s =>
      obtain ⟨a, rfl, ha⟩ := at_kind hv
      refine if_word rfl ha (fun _ => ?_) (fun z => absurd rfl z)
      refine ⟨_, rfl, a, _, 1, .str s, rfl, rfl, ha, atI_nat (j := 1) rfl, sz_ok (n := 1) (by decide), fun p hp => q _ p (Fr.of hp) (Ex.new hp) ?_⟩
      rw [upd_same, names_kind]; rfl
    | many m g =>
      obtain ⟨a, u, rfl, ha, hu⟩ := at_many hv
      refine if_word rfl ha (fun z => absurd z n_mk) (fun _ => if_word rfl ha (fun _ => ?_) (fun z => absurd rfl z))
      refine ⟨_, rfl, a, _, 2, u, rfl, rfl, ha, atI_nat (j := 2) rfl, u, g, rfl, hu, hok.many, ?_, fun H' p h1 h2 h3 => q H' p h1 h2 ?_⟩
      · rw [depth_many] at hdep; omega
      · rw [names_many]; exact h3
    | node b ps =>
      obtain ⟨a, c, us, rfl, ha, hc, hu⟩ := at_node hv
      refine if_word rfl ha (fun z => absurd z (n_nk b)) (fun _ => if_word rfl ha (fun z => absurd z (n_nm b)) (fun _ => ?_))
      refine ⟨_, rfl, a, _, 1, .ref c, rfl, rfl, ha, atI_nat (j := 1) rfl, c, rfl, ⟨us, hc⟩, fun D hD => ?_⟩
      have hl : ps.length = us.length := by rw [dpa_len hu, List.length_map]
      have hn : (ps.flatMap Fm.names).length ≤ 8 := by rw [← names_node b ps]; exact hok.few
      refine flat_core (T := T) (as := ps) Fm.names (fun _ y s => y = .str s) (fun _ _ _ _ _ h => h) walk_tup hl (by omega) (fun H' e => e.st hc) hD ?_ ?_
      · rintro j p x H' H'' R hp e ⟨acc, hacc⟩ ⟨rfl, hx⟩ hR
        have hx2 : Dp K H'' x (enc p) := e.dp (at_dat hu hp hx)
        refine ⟨rfl, _, rfl, x, p, rfl, hx2, hok.part (List.mem_of_getElem? hp), ?_, fun H3 l h1 h2 h3 => ?_⟩
        · rw [depth_node] at hdep
          have := depth_part (List.mem_of_getElem? hp)
          omega
        have nD : l ≠ D := h1.ne hacc
        refine ⟨l, rfl, ⟨_, .inl (.inl h3)⟩, hR _ _ (fun H => SqL K H l (p.names.map V.str)) (YAt (p.names.map V.str)) H3 h2 ?_ ?_ ?_⟩
        · have := walk_list (K := K) (a := l) (xs := p.names.map V.str)
          rw [List.length_map] at this
          exact this
        · intro H5 e5
          exact .inl (.inl (e5.lst (by rw [hide_ne nD]; exact h3)))
        · rintro j1 d x1 H5 H6 E hd e5 ⟨acc5, hacc5⟩ ⟨rfl, hx1⟩ hE
          rw [List.getElem?_map, hd] at hx1
          cases hx1
          exact ⟨rfl, _, rfl, hE _ _ (Ex.refl _) rfl⟩
      · intro ys H' e h1 h2
        refine q H' D (Fr.of hD) e ?_
        rw [h1, names_node, paired_strs h2]
end
end K23
/-! W2: kinds_of, number_of, target_of, endless_number. -/
namespace K23
open PySem PySem.Spec PyProof.Rows L2
theorem rising_le : ∀ (r : List Str) (x : Str), risingS x r = true → (x :: r).Pairwise fun a b => leS a b = true
  | [], x, _ => List.pairwise_singleton _ _
  | y :: r, x, h => by
    rw [risingS, Bool.and_eq_true] at h
    have ih := rising_le r y h.2
    have h1 : leS x y = true := by
      have q := h.1
      rw [ltCps_eq, Bool.not_eq_true', decide_eq_false_iff_not] at q
      exact decide_eq_true (List.not_lt.mp q)
    refine List.pairwise_cons.mpr ⟨fun z hz => ?_, ih⟩
    rcases List.mem_cons.mp hz with rfl | hz
    · exact h1
    · exact leS_trans _ _ _ h1 ((List.pairwise_cons.mp ih).1 z hz)
theorem sortedS_is {ys ns : List Str} (p : ys.Perm ns) (h : sortedS ys = true) : ys = sortN ns := by
  refine sorted_unique (p.trans (sortN_perm ns).symm) ?_ (sortN_sorted ns)
  cases ys with
  | nil => exact .nil
  | cons x r => exact rising_le r x h
theorem sortN_len (ns : List Str) : (sortN ns).length = ns.length := (sortN_perm ns).length_eq
theorem mem_sortN {ns : List Str} {s : Str} : s ∈ sortN ns ↔ s ∈ ns := (sortN_perm ns).mem_iff
theorem w_or (b : Bool) : ((if b then "and" else "or" : Str) = "or") ↔ b = false := by
  cases b
  · exact ⟨fun _ => rfl, fun _ => rfl⟩
  · exact ⟨fun z => absurd z.symm n_oa, fun z => by cases z⟩
theorem w_and (b : Bool) : ((if b then "and" else "or" : Str) = "and") ↔ b = true := by
  cases b
  · exact ⟨fun z => absurd z n_oa, fun z => by cases z⟩
  · exact ⟨fun _ => rfl, fun _ => rfl⟩
/-- an answer that may be None -/
def oV : Option Int → V
  | none => .non
  | some t => .int t
/-- a row: names to amounts -/
def RowOn (H : Hp) (a : Addr) (ns : List Str) (ρ : Str → Int) : Prop := ∃ kvs : List (Key × V), H a = some (.dK kvs) ∧ ∀ s ∈ ns, valV kvs (.inr s) = some (.int (ρ s))
theorem RowOn.sub {H : Hp} {a : Addr} {ns ms : List Str} {ρ : Str → Int} (h : RowOn H a ns ρ) (s : ∀ x ∈ ms, x ∈ ns) : RowOn H a ms ρ := by
  obtain ⟨kvs, h1, h2⟩ := h
  exact ⟨kvs, h1, fun x hx => h2 x (s x hx)⟩
theorem RowOn.ex {T : Tl} {H H' : Hp} {a : Addr} {ns : List Str} {ρ : Str → Int} (h : RowOn H a ns ρ) (e : Ex T H H') : RowOn H' a ns ρ := by
  obtain ⟨kvs, h1, h2⟩ := h
  exact ⟨kvs, e.dK h1, h2⟩
theorem RowOn.get {H : Hp} {a : Addr} {ns : List Str} {ρ : Str → Int} (h : RowOn H a ns ρ) {s : Str} (hs : s ∈ ns) : DGet H a (.str s) (some (.int (ρ s))) := by
  obtain ⟨kvs, h1, h2⟩ := h
  rw [← h2 s hs]
  exact DGet.k (k := .inr s) h1
theorem FmOk.names_node {b : Bool} {ps : List (Fm Str)} (h : FmOk (.node b ps)) : ps.length ≤ 8 := by
  have h1 := h.few
  have h2 : ∀ qs : List (Fm Str), (∀ p ∈ qs, p ∈ ps) → qs.length ≤ (qs.flatMap Fm.names).length := by
    intro qs hq
    induction qs with
    | nil => simp
    | cons p r ih =>
      have i := ih fun x hx => hq x (List.mem_cons_of_mem _ hx)
      have l : 1 ≤ p.names.length := names_pos (h.part (hq p List.mem_cons_self)).wf
      rw [List.flatMap_cons, List.length_append, List.length_cons]
      omega
  rw [K23.names_node] at h1
  exact Nat.le_trans (h2 ps fun _ => id) h1
section
variable {T : Tl} {P : Program} {w : World} {K : PySem.W.Frag} {mg : Str → Option Value} {base : Heap} {A : Nat → Addr} {D : Nat → FuncData}
/-! ### kinds_of -/
def spKinds (T : Tl) (K : PySem.W.Frag) : Sp := fun vs H Q _ => ∃ (v : V) (f : Fm Str), vs = [v] ∧ Dp K H v (enc f) ∧ FmOk f ∧ depth f < 24 ∧
  ∀ H' p, Fr H p → Ex T H H' → H' p = some (.tup ((sortN f.names).map V.str)) → Q (.ref p) H'
theorem ok_kinds_of (U : Txt K mg A D) : FnOk P w K mg base CX0 25 (A 15) (D 15) ["formula"] (spKinds T K) := by
  have G_names_in : FnOk P w K mg base CX0 24 (A 14) (D 14) ["formula"] (spNames T K 24) := ok_names_in U 24
  refine (F_kinds_of U).ok sc_kinds_of (fun vs H Q E h => by obtain ⟨_, _, rfl, _⟩ := h; rfl) (fun cdv A' outer s H vs Q E hr h => ?_)
  obtain ⟨v, f, rfl, hv, hok, hdep, q⟩ := h
  refine ⟨_, PSs.nox (pss_one
      (ps_ret (pe_callTy (kc_tuple K) (by rfl) (z_tuple U) boot_tuple (pa_cons (pe_callB (kc_sortedS K) (by rfl) (z_sorted U) boot_sorted (pa_cons (pe_f G_names_in hr (by omega) (g_names_in U) (F_names_in U).kp (b_names_in U) (pa_cons (pv 0) pa_nil)) pa_nil)) pa_nil)))), ?_⟩
  refine ⟨_, rfl, v, f, rfl, hv, hok, hdep, fun H1 p h1 e1 h2 => ⟨p, f.names, rfl, .inl (.inl h2), by have := hok.few; omega, fun ys l pm so hl => ?_⟩⟩
  have e2 : Ex T H (upd H1 l (.lst (ys.map V.str))) := e1.trans (Ex.new hl)
  refine ⟨l, _, rfl, .inl ⟨.inl (.inl upd_same), fun r hr => ?_⟩⟩
  refine q _ r (Fr.new e2 hr) (e2.trans (Ex.new hr)) ?_
  rw [upd_same, sortedS_is pm so]
/-! ### number_of -/
def spNum (T : Tl) (K : PySem.W.Frag) (n : Nat) : Sp := fun vs H Q _ => ∃ (v : V) (f : Fm Str) (a : Addr) (ρ : Str → Int), vs = [v, .ref a] ∧ Dp K H v (enc f) ∧ FmOk f ∧ depth f < n ∧ RowOn H a f.names ρ ∧
  ∀ H', Ex T H H' → Q (.int (num ρ f)) H'
theorem two_fdiv {i : Int} {n : Nat} (h : 2 ≤ n ∧ n ≤ 12) : CDiv i (n : Int) := ⟨by omega, by omega⟩
theorem ok_number_of (U : Txt K mg A D) : ∀ n, FnOk P w K mg base CX0 n (A 23) (D 23) ["formula", "row"] (spNum T K n)
  | 0 => ⟨fun vs H Q E h => by obtain ⟨_, _, _, _, _, _, _, h, _⟩ := h; omega, fun _ _ _ H _ _ vs Q E _ _ _ _ h => by obtain ⟨_, _, _, _, _, _, _, h, _⟩ := h; omega⟩
  | n + 1 => by
    have G_number_of : FnOk P w K mg base CX0 n (A 23) (D 23) ["formula", "row"] (spNum T K n) := ok_number_of U n
    refine (F_number_of U).ok sc_number_of (fun vs H Q E h => by obtain ⟨_, _, _, _, rfl, _⟩ := h; rfl) (fun cdv A' outer s H vs Q E hr h => ?_)
    obtain ⟨v, f, r, ρ, rfl, hv, hok, hdep, hrow, q⟩ := h
    refine ⟨_, PSs.nox (pss_cons
      (ps_if (pt_cmpR op_eq (pe_ix (kx_tup K) (pv 0) pe_int (fun _ _ => rfl)) pe_str (nomark _))
       (pss_one
       (ps_ret (pe_dget (hu_of hr) (pv 1) (pe_ix (kx_tup K) (pv 0) pe_int (fun _ _ => rfl)) (fun _ _ => rfl))))
       pss_nil)
      (pss_cons
      (ps_if (pt_cmpR op_eq (pe_ix (kx_tup K) (pv 0) pe_int (fun _ _ => rfl)) pe_str (nomark _))
       (pss_one
       (ps_ret (pe_op op_fdiv (pe_f G_number_of hr (by omega) (g_number_of U) (F_number_of U).kp (b_number_of U) (pa_cons (pe_ix (kx_tup K) (pv 0) pe_int (fun _ _ => rfl)) (pa_cons (pv 1) pa_nil))) (pe_ix (kx_tup K) (pv 0) pe_int (fun _ _ => rfl)))))
       pss_nil)
      (pss_cons
      (ps_setLc (i := 2) (g := gName 3) (tt := tYes) rfl sc_number_of.nd rfl rfl (by kernel_rfl) (ki_tup K (pe_ix (kx_tup K) (pv 0) pe_int (fun _ _ => rfl))) (blkOk_by (N := N_number_of) (own := [("part", 3)]) (by kernel_rfl)) (fun _ _ _ _ _ => (pg_name (i := 3) sc_number_of.nd rfl (.inl rfl))) (fun _ _ _ _ _ => pts_nil) (fun _ _ _ _ _ => (pe_f G_number_of hr (by omega) (g_number_of U) (F_number_of U).kp (b_number_of U) (pa_cons (pv 3) (pa_cons (pv 1) pa_nil)))))
      (pss_one
      (ps_ret (pe_ifExp (pt_cmpR op_eq (pe_ix (kx_tup K) (pv 0) pe_int (fun _ _ => rfl)) pe_str (nomark _)) (pe_callB (kc_min K) (by rfl) (z_min U) boot_min (pa_cons (pv 2) pa_nil)) (pe_callB (kc_sum K) (by rfl) (z_sum U) boot_sum (pa_cons (pv 2) pa_nil)))))))), ?_⟩
    cases f with
    | kind s =>
      obtain ⟨a, rfl, ha⟩ := at_kind hv
      refine if_word rfl ha (fun _ => ?_) (fun z => absurd rfl z)
      refine ⟨_, rfl, _, rfl, a, _, 1, .str s, rfl, rfl, ha, atI_nat (j := 1) rfl, r, _, rfl, hrow.get (by rw [names_kind]; exact List.mem_singleton_self _), ?_⟩
      rw [← num_kind ρ s]; exact q H (Ex.refl H)
    | many m g =>
      obtain ⟨a, u, rfl, ha, hu⟩ := at_many hv
      refine if_word rfl ha (fun z => absurd z n_mk) (fun _ => if_word rfl ha (fun _ => ?_) (fun z => absurd rfl z))
      refine ⟨_, rfl, a, _, 2, u, rfl, rfl, ha, atI_nat (j := 2) rfl, _, rfl, u, g, r, ρ, rfl, hu, hok.many, ?_, ?_, fun H' e1 => ?_⟩
      · rw [depth_many] at hdep; omega
      · rw [names_many] at hrow; exact hrow
      · refine ⟨_, rfl, a, _, 1, .int (m : Int), rfl, rfl, e1.st ha, atI_nat (j := 1) rfl, _, _, rfl, rfl, two_fdiv hok.two, ?_⟩
        have := q H' e1
        rw [num_many] at this
        exact this
    | node b ps =>
      obtain ⟨a, c, us, rfl, ha, hc, hu⟩ := at_node hv
      refine if_word rfl ha (fun z => absurd z (n_nk b)) (fun _ => if_word rfl ha (fun z => absurd z (n_nm b)) (fun _ => ?_))
      refine ⟨_, rfl, a, _, 1, .ref c, rfl, rfl, ha, atI_nat (j := 1) rfl, c, rfl, ⟨us, hc⟩, fun D hD => ?_⟩
      have hl : ps.length ≤ 8 := hok.names_node
      refine map_tup (T := T) hc hu (fun p => some (.int (num ρ p))) (by omega) hD ?_ ?_
      · intro p x H' E N hp e hx _ hE
        refine ⟨rfl, _, rfl, _, rfl, x, p, r, ρ, rfl, hx, hok.part hp, ?_, (hrow.ex e).sub (names_part hp).subset, fun H3 e3 => hE _ rfl _ H3 e3 rfl (.int _)⟩
        rw [depth_node] at hdep
        have := depth_part hp
        omega
      · intro ys H' e h1 h2
        rw [fm_some, show (ps.map fun p => PyData.int (num ρ p)) = (ps.map (num ρ)).map .int by rw [List.map_map]; rfl] at h2
        have h3 := dpa_ints h2
        subst h3
        refine test_word rfl (e.st ha) (if_dec (fun z => ?_) fun z => ?_)
        · rw [w_and] at z; subst z
          refine ⟨_, rfl, D, ps.map (num ρ), rfl, .inl (.inl h1), ?_, fun m hm hle => ?_⟩
          · rw [List.length_map]; have := hok.parts; omega
          · rw [lmin_unique hm hle, ← num_and]; exact q H' e
        · rw [w_and] at z
          have z2 : b = false := by cases b; rfl; exact absurd rfl z
          subst z2
          refine ⟨_, rfl, D, ps.map (num ρ), rfl, .inl (.inl h1), ?_⟩
          rw [← num_or]; exact q H' e
/-! ### target_of -/
def spTgt (T : Tl) (K : PySem.W.Frag) (n : Nat) : Sp := fun vs H Q _ => ∃ (v : V) (f : Fm Str) (a : Addr) (ρ : Str → Int) (name : Str) (m : Int), vs = [v, .ref a, .str name, .int m] ∧ Dp K H v (enc f) ∧ FmOk f ∧ depth f < n ∧ n ≤ 24 ∧ RowOn H a f.names ρ ∧ name ∈ f.names ∧
  ∀ H', Ex T H H' → Q (oV (target ρ name f m)) H'
theorem head_in {name : Str} : ∀ {ps : List (Fm Str)}, name ∈ ps.flatMap Fm.names → ∃ p r, ps.filter (fun p => decide (name ∈ p.names)) = p :: r ∧ p ∈ ps ∧ name ∈ p.names ∧ ∀ ρ m, targetL ρ name ps m = target ρ name p m
  | [], h => by simp at h
  | p :: r, h => by
    by_cases hp : name ∈ p.names
    · exact ⟨p, r.filter (fun p => decide (name ∈ p.names)), by rw [List.filter_cons, if_pos (decide_eq_true hp)], List.mem_cons_self, hp, fun ρ m => by rw [targetL, if_pos hp]⟩
    · rw [List.flatMap_cons, List.mem_append] at h
      obtain ⟨x, t, h1, h2, h3, h4⟩ := head_in (h.resolve_left hp)
      exact ⟨x, t, by rw [List.filter_cons, if_neg (by rw [decide_eq_false hp]; decide)]; exact h1, List.mem_cons_of_mem _ h2, h3, fun ρ m => by rw [targetL, if_neg hp]; exact h4 ρ m⟩
theorem others_pos {b : Bool} {name : Str} {ps : List (Fm Str)} (hok : FmOk (.node b ps)) : 0 < (ps.filter fun p => decide (name ∉ p.names)).length := by
  have h2 := hok.parts
  have nd := hok.nd
  rw [names_node] at nd
  match ps, h2, nd, hok with
  | p :: q :: r, _, nd, _ =>
    by_cases hp : name ∈ p.names
    · have hq : name ∉ q.names := fun hq => by
        rw [List.flatMap_cons, List.nodup_append] at nd
        exact nd.2.2 name hp name (by rw [List.flatMap_cons]; exact List.mem_append_left _ hq) rfl
      rw [List.filter_cons, if_neg (by simpa using hp), List.filter_cons, if_pos (decide_eq_true hq)]
      exact Nat.succ_pos _
    · rw [List.filter_cons, if_pos (decide_eq_true hp)]
      exact Nat.succ_pos _
theorem ok_target_of (U : Txt K mg A D) : ∀ n, FnOk P w K mg base CX0 (n + 24) (A 25) (D 25) ["formula", "row", "name", "many"] (spTgt T K n)
  | 0 => ⟨fun vs H Q E h => by obtain ⟨_, _, _, _, _, _, _, _, _, h, _⟩ := h; omega, fun _ _ _ H _ _ vs Q E _ _ _ _ h => by obtain ⟨_, _, _, _, _, _, _, _, _, h, _⟩ := h; omega⟩
  | n + 1 => by
    have G_target_of : FnOk P w K mg base CX0 (n + 24) (A 25) (D 25) ["formula", "row", "name", "many"] (spTgt T K n) := ok_target_of U n
    have G_names_in : FnOk P w K mg base CX0 24 (A 14) (D 14) ["formula"] (spNames T K 24) := ok_names_in U 24
    have G_number_of : FnOk P w K mg base CX0 24 (A 23) (D 23) ["formula", "row"] (spNum T K 24) := ok_number_of U 24
    refine FnOk.mono ((F_target_of U).ok (k := n + 24) sc_target_of (fun vs H Q E h => by obtain ⟨_, _, _, _, _, _, rfl, _⟩ := h; rfl) (fun cdv A' outer s H vs Q E hr h => ?_)) (by omega)
    obtain ⟨v, f, r, ρ, name, m, rfl, hv, hok, hdep, hn24, hrow, hname, q⟩ := h
    refine ⟨_, PSs.nox (pss_cons
      (ps_if (pt_cmpR op_eq (pe_ix (kx_tup K) (pv 0) pe_int (fun _ _ => rfl)) pe_str (nomark _))
       (pss_one
       (ps_ret (pv 3)))
       pss_nil)
      (pss_cons
      (ps_if (pt_cmpR op_eq (pe_ix (kx_tup K) (pv 0) pe_int (fun _ _ => rfl)) pe_str (nomark _))
       (pss_one
       (ps_ret (pe_f G_target_of hr (by omega) (g_target_of U) (F_target_of U).kp (b_target_of U) (pa_cons (pe_ix (kx_tup K) (pv 0) pe_int (fun _ _ => rfl)) (pa_cons (pv 1) (pa_cons (pv 2) (pa_cons (pe_op op_mul (pv 3) (pe_ix (kx_tup K) (pv 0) pe_int (fun _ _ => rfl))) pa_nil)))))))
       pss_nil)
      (pss_cons
      (ps_set (i := 4) sc_target_of.nd rfl (.inl rfl) (pe_ix (kx_list K) (pe_lc (g := gName 6) rfl sc_target_of.nd (ki_tup K (pe_ix (kx_tup K) (pv 0) pe_int (fun _ _ => rfl))) (blkOk_by (N := N_target_of) (own := [("part", 6)]) (by kernel_rfl)) (fun _ _ _ _ _ => (pg_name (i := 6) sc_target_of.nd rfl (.inl rfl))) (fun _ _ _ _ _ => (pts_one (pt_cmpR (ko_in K) (pv 2) (pe_f G_names_in hr (by omega) (g_names_in U) (F_names_in U).kp (b_names_in U) (pa_cons (pv 6) pa_nil)) rfl))) (fun _ _ _ _ _ => (pv 6))) pe_int (fun _ _ => rfl)))
      (pss_cons
      (ps_setLc (i := 5) (g := gName 6) rfl sc_target_of.nd rfl rfl (by kernel_rfl) (ki_tup K (pe_ix (kx_tup K) (pv 0) pe_int (fun _ _ => rfl))) (blkOk_by (N := N_target_of) (own := [("part", 6)]) (by kernel_rfl)) (fun _ _ _ _ _ => (pg_name (i := 6) sc_target_of.nd rfl (.inl rfl))) (fun _ _ _ _ _ => (pts_one (pt_cmpR (ko_notIn K) (pv 2) (pe_f G_names_in hr (by omega) (g_names_in U) (F_names_in U).kp (b_names_in U) (pa_cons (pv 6) pa_nil)) rfl))) (fun _ _ _ _ _ => (pe_f G_number_of hr (by omega) (g_number_of U) (F_number_of U).kp (b_number_of U) (pa_cons (pv 6) (pa_cons (pv 1) pa_nil)))))
      (pss_cons
      (ps_if (pt_cmpR op_eq (pe_ix (kx_tup K) (pv 0) pe_int (fun _ _ => rfl)) pe_str (nomark _))
       (pss_one
       (ps_ret (pe_f G_target_of hr (by omega) (g_target_of U) (F_target_of U).kp (b_target_of U) (pa_cons (pv 4) (pa_cons (pv 1) (pa_cons (pv 2) (pa_cons (pe_op op_sub (pv 3) (pe_callB (kc_sum K) (by rfl) (z_sum U) boot_sum (pa_cons (pv 5) pa_nil))) pa_nil)))))))
       pss_nil)
      (pss_one
      (ps_ret (pe_ifExp (pt_cmpR op_ge (pe_callB (kc_min K) (by rfl) (z_min U) boot_min (pa_cons (pv 5) pa_nil)) (pv 3) (nomark _)) (pe_f G_target_of hr (by omega) (g_target_of U) (F_target_of U).kp (b_target_of U) (pa_cons (pv 4) (pa_cons (pv 1) (pa_cons (pv 2) (pa_cons (pv 3) pa_nil))))) pe_non)))))))), ?_⟩
    cases f with
    | kind s =>
      obtain ⟨a, rfl, ha⟩ := at_kind hv
      refine if_word rfl ha (fun _ => ?_) (fun z => absurd rfl z)
      refine ⟨_, rfl, ?_⟩
      have := q H (Ex.refl H)
      rw [target_kind] at this; exact this
    | many k g =>
      obtain ⟨a, u, rfl, ha, hu⟩ := at_many hv
      refine if_word rfl ha (fun z => absurd z n_mk) (fun _ => if_word rfl ha (fun _ => ?_) (fun z => absurd rfl z))
      refine ⟨_, rfl, a, _, 2, u, rfl, rfl, ha, atI_nat (j := 2) rfl, _, rfl, _, rfl, _, rfl, _, rfl, a, _, 1, .int (k : Int), rfl, rfl, ha, atI_nat (j := 1) rfl, _, _, rfl, rfl, .inr ?_, u, g, r, ρ, name, _, rfl, hu, hok.many, ?_, by omega, ?_, ?_, fun H' e1 => ?_⟩
      · have := hok.two; omega
      · rw [depth_many] at hdep; omega
      · rw [names_many] at hrow; exact hrow
      · rw [names_many] at hname; exact hname
      · have := q H' e1
        rw [target_many] at this
        exact this
    | node b ps =>
      obtain ⟨a, c, us, rfl, ha, hc, hu⟩ := at_node hv
      refine if_word rfl ha (fun z => absurd z (n_nk b)) (fun _ => if_word rfl ha (fun z => absurd z (n_nm b)) (fun _ => ?_))
      have hl : ps.length ≤ 8 := hok.names_node
      have hdp : ∀ p ∈ ps, depth p < n := fun p hp => by
        rw [depth_node] at hdep
        have := depth_part hp
        omega
      rw [names_node] at hname
      obtain ⟨p0, r0, h0, hp0, hn0, hT⟩ := head_in hname
      -- inner
      refine ⟨_, rfl, a, _, 1, .ref c, rfl, rfl, ha, atI_nat (j := 1) rfl, c, rfl, ⟨us, hc⟩, fun D hD => ?_⟩
      refine map_tup (T := T) hc hu (fun p => if decide (name ∈ p.names) then some (enc p) else none) (by omega) hD ?_ ?_
      · intro p x H' E N hp e hx h1 h2
        refine ⟨rfl, _, rfl, _, rfl, x, p, rfl, hx, hok.part hp, by have := hdp p hp; omega, fun H3 l f3 e3 h3 => ⟨l, _, rfl, .inl (.inl (.inl h3)), rfl, flat_strs _, _, rfl, ?_⟩⟩
        rw [in_strs]
        refine if_dec (fun z => ?_) fun z => ?_
        · exact ⟨_, rfl, h2 _ (if_pos (decide_eq_true z)) _ H3 e3 (flat_enc p) (e3.dp hx)⟩
        · exact h1 (if_neg (by rw [decide_eq_false z]; decide)) H3 e3
      intro ys H1 e1 hD1 hy
      rw [fm_filter, h0] at hy
      obtain ⟨x0, ys', rfl, hx0⟩ : ∃ x0 ys', ys = x0 :: ys' ∧ Dp K H1 x0 (enc p0) := by
        cases hy with
        | cons h1 h2 => exact ⟨_, _, rfl, h1⟩
      refine ⟨D, _, 0, x0, rfl, rfl, .inl (.inl hD1), atI_nat (j := 0) rfl, ?_⟩
      -- others
      refine ⟨_, rfl, a, _, 1, .ref c, rfl, rfl, e1.st ha, atI_nat (j := 1) rfl, c, rfl, ⟨us, e1.st hc⟩, fun D2 hD2 => ?_⟩
      refine map_tup (T := T) (e1.st hc) (e1.dpa hu) (fun p => if decide (name ∉ p.names) then some (.int (num ρ p)) else none) (by omega) hD2 ?_ ?_
      · intro p x H' E N hp e hx h1 h2
        refine ⟨rfl, _, rfl, _, rfl, x, p, rfl, hx, hok.part hp, by have := hdp p hp; omega, fun H3 l f3 e3 h3 => ⟨l, _, rfl, .inl (.inl (.inl h3)), rfl, flat_strs _, _, rfl, ?_⟩⟩
        rw [in_strs, if_pos rfl, ← decide_not]
        refine if_dec (fun z => ?_) fun z => ?_
        · refine ⟨_, rfl, _, rfl, x, p, r, ρ, rfl, e3.dp hx, hok.part hp, by have := hdp p hp; omega, ?_, fun H4 e4 => h2 _ (if_pos (decide_eq_true z)) _ H4 (e3.trans e4) rfl (.int _)⟩
          exact (hrow.ex ((e1.trans e).trans e3)).sub (names_part hp).subset
        · exact h1 (if_neg (by rw [decide_eq_false z]; decide)) H3 e3
      intro ys2 H2 e2 hD3 hy2
      rw [fm_filter, show ((ps.filter fun p => decide (name ∉ p.names)).map fun p => PyData.int (num ρ p)) = (others ρ name ps).map .int by unfold others; rw [List.map_map]; rfl] at hy2
      have h3 := dpa_ints hy2
      subst h3
      have e12 := e1.trans e2
      have hsub : RowOn H2 r p0.names ρ := (hrow.ex e12).sub (names_part hp0).subset
      refine if_word rfl (e12.st ha) (fun z => ?_) fun z => ?_
      · rw [w_or] at z; subst z
        refine ⟨_, rfl, _, rfl, _, rfl, _, rfl, _, rfl, D2, others ρ name ps, rfl, .inl (.inl hD3), _, _, rfl, rfl, x0, p0, r, ρ, name, _, rfl, e2.dp hx0, hok.part hp0, hdp p0 hp0, by omega, hsub, hn0, fun H' e' => ?_⟩
        have := q H' (e12.trans e')
        rw [target_or, hT] at this
        exact this
      · have z2 : b = true := by
          cases b
          · exact absurd rfl z
          · rfl
        subst z2
        refine ⟨_, rfl, D2, others ρ name ps, rfl, .inl (.inl hD3), ?_, fun mm hm hle => ?_⟩
        · unfold others; rw [List.length_map]; exact others_pos hok
        rw [lmin_unique hm hle]
        refine ⟨_, rfl, _, _, rfl, rfl, _, rfl, if_dec (fun z => ?_) fun z => ?_⟩
        · refine ⟨_, rfl, _, rfl, _, rfl, _, rfl, x0, p0, r, ρ, name, _, rfl, e2.dp hx0, hok.part hp0, hdp p0 hp0, by omega, hsub, hn0, fun H' e' => ?_⟩
          have := q H' (e12.trans e')
          rw [target_and, if_pos z, hT] at this
          exact this
        · have := q H2 e12
          rw [target_and, if_neg z] at this
          exact this
end
end K23
/-! W3: endless_number, side_number. -/
namespace K23
open PySem PySem.Spec PyProof.Rows L2
def oD : Option Int → PyData
  | none => .none
  | some t => .int t
theorem dp_oV {K : PySem.W.Frag} {H : Hp} (o : Option Int) : Dp K H (oV o) (oD o) := by cases o; exact .non; exact .int _
theorem oV_of {K : PySem.W.Frag} {H : Hp} {v : V} {o : Option Int} (h : Dp K H v (oD o)) : v = oV o := by
  cases o with
  | none => exact h.at_none
  | some t => exact h.at_int
theorem flat_oD (o : Option Int) : flatD (oD o) = true := by cases o <;> rfl
theorem oMin_known : ∀ es : List (Option Int), oMin es = if es.filterMap id = [] then none else some (lmin (es.filterMap id))
  | [] => rfl
  | none :: r => by rw [oMin, oMin_known r]; rfl
  | some a :: r => by
    rw [oMin, oMin_known r, show (some a :: r).filterMap id = a :: r.filterMap id from rfl, if_neg (List.cons_ne_nil a _)]
    by_cases h : r.filterMap id = []
    · rw [if_pos h, h]; rfl
    · rw [if_neg h, lmin_cons h]
theorem oSum_known : ∀ es : List (Option Int), oSum es = if (es.filterMap id).length < es.length then none else some (es.filterMap id).sum
  | [] => rfl
  | none :: r => by
    have l : (r.filterMap id).length ≤ r.length := List.length_filterMap_le _ _
    rw [oSum, List.filterMap_cons, if_pos]
    show (r.filterMap id).length < r.length + 1
    omega
  | some a :: r => by
    rw [oSum, oSum_known r, List.filterMap_cons]
    show _ = if (a :: r.filterMap id).length < r.length + 1 then none else some (a :: r.filterMap id).sum
    rw [List.length_cons, List.sum_cons]
    by_cases h : (r.filterMap id).length < r.length
    · rw [if_pos h, if_pos (by omega)]
    · rw [if_neg h, if_neg (by omega)]
open PyData in
theorem can_ints : ∀ ns : List Int, canLayAll0 (ns.map PyData.int) = true
  | [] => by rw [List.map_nil, canLayAll0]
  | n :: r => by rw [List.map_cons, canLayAll0, can_ints r, canLay0]; rfl
open PyData in
theorem depth_ints : ∀ ns : List Int, depthAll (ns.map PyData.int) = 0
  | [] => by rw [List.map_nil, depthAll]
  | n :: r => by rw [List.map_cons, depthAll, depth_ints r, PyData.depth]; rfl
theorem shp_lst_ints (ns : List Int) : SeqAt.shaped (.list (ns.map PyData.int)) = true := by
  unfold SeqAt.shaped
  rw [PyData.canLay0, can_ints, PyData.depth, depth_ints]; rfl
theorem shp_tup_ints (ns : List Int) : SeqAt.shaped (.tuple (ns.map PyData.int)) = true := by
  unfold SeqAt.shaped
  rw [PyData.canLay0, can_ints, PyData.depth, depth_ints]; rfl
theorem eqv_nil (ds : List PyData) : PyData.eqv (.list ds) (.list []) = decide (ds = []) := by
  cases ds with
  | nil => rw [PyData.eqv, PyData.eqvAll]; rfl
  | cons d r => rw [PyData.eqv, PyData.eqvAll]; exact (decide_eq_false (List.cons_ne_nil d r)).symm
theorem eqv_nilT (ds : List PyData) : PyData.eqv (.tuple ds) (.tuple []) = decide (ds = []) := by
  cases ds with
  | nil => rw [PyData.eqv, PyData.eqvAll]; rfl
  | cons d r => rw [PyData.eqv, PyData.eqvAll]; exact (decide_eq_false (List.cons_ne_nil d r)).symm
section
variable {T : Tl} {P : Program} {w : World} {K : PySem.W.Frag} {mg : Str → Option Value} {base : Heap} {A : Nat → Addr} {D : Nat → FuncData}
/-! ### endless_number -/
def spEnd (T : Tl) (K : PySem.W.Frag) (n : Nat) : Sp := fun vs H Q _ => ∃ (v : V) (f : Fm Str) (a l : Addr) (ρ : Str → Int) (L : List Str), vs = [v, .ref a, .ref l] ∧ Dp K H v (enc f) ∧ FmOk f ∧ depth f < n ∧ n ≤ 24 ∧ RowOn H a f.names ρ ∧ SqT K H l (L.map V.str) ∧
  ∀ H', Ex T H H' → Q (oV (endless ρ L f)) H'
theorem ok_endless_number (U : Txt K mg A D) : ∀ n, FnOk P w K mg base CX0 n (A 28) (D 28) ["formula", "row", "lot"] (spEnd T K n)
  | 0 => ⟨fun vs H Q E h => by obtain ⟨_, _, _, _, _, _, _, _, _, h, _⟩ := h; omega, fun _ _ _ H _ _ vs Q E _ _ _ _ h => by obtain ⟨_, _, _, _, _, _, _, _, _, h, _⟩ := h; omega⟩
  | n + 1 => by
    have G_endless_number : FnOk P w K mg base CX0 n (A 28) (D 28) ["formula", "row", "lot"] (spEnd T K n) := ok_endless_number U n
    refine (F_endless_number U).ok sc_endless_number (fun vs H Q E h => by obtain ⟨_, _, _, _, _, _, rfl, _⟩ := h; rfl) (fun cdv A' outer s H vs Q E hr h => ?_)
    obtain ⟨v, f, r, l, ρ, L, rfl, hv, hok, hdep, hn24, hrow, hlot, q⟩ := h
    refine ⟨_, PSs.nox (pss_cons
      (ps_if (pt_cmpR op_eq (pe_ix (kx_tup K) (pv 0) pe_int (fun _ _ => rfl)) pe_str (nomark _))
       (pss_one
       (ps_ret (pe_ifExp (pt_cmpR (ko_in K) (pe_ix (kx_tup K) (pv 0) pe_int (fun _ _ => rfl)) (pv 2) rfl) pe_non (pe_dget (hu_of hr) (pv 1) (pe_ix (kx_tup K) (pv 0) pe_int (fun _ _ => rfl)) (fun _ _ => rfl)))))
       pss_nil)
      (pss_cons
      (ps_if (pt_cmpR op_eq (pe_ix (kx_tup K) (pv 0) pe_int (fun _ _ => rfl)) pe_str (nomark _))
       (pss_cons
       (ps_set (i := 3) sc_endless_number.nd rfl (.inl rfl) (pe_f G_endless_number hr (by omega) (g_endless_number U) (F_endless_number U).kp (b_endless_number U) (pa_cons (pe_ix (kx_tup K) (pv 0) pe_int (fun _ _ => rfl)) (pa_cons (pv 1) (pa_cons (pv 2) pa_nil)))))
       (pss_one
       (ps_ret (pe_ifExp (pt_cmpR op_isN (pv 3) pe_non (nomark _)) pe_non (pe_op op_fdiv (pv 3) (pe_ix (kx_tup K) (pv 0) pe_int (fun _ _ => rfl)))))))
       pss_nil)
      (pss_cons
      (ps_setLc (i := 4) (g := gName 6) (tt := tYes) rfl sc_endless_number.nd rfl rfl (by kernel_rfl) (ki_tup K (pe_ix (kx_tup K) (pv 0) pe_int (fun _ _ => rfl))) (blkOk_by (N := N_endless_number) (own := [("part", 6)]) (by kernel_rfl)) (fun _ _ _ _ _ => (pg_name (i := 6) sc_endless_number.nd rfl (.inl rfl))) (fun _ _ _ _ _ => pts_nil) (fun _ _ _ _ _ => (pe_f G_endless_number hr (by omega) (g_endless_number U) (F_endless_number U).kp (b_endless_number U) (pa_cons (pv 6) (pa_cons (pv 1) (pa_cons (pv 2) pa_nil))))))
      (pss_cons
      (ps_setLc (i := 5) (g := gName 7) rfl sc_endless_number.nd rfl rfl (by kernel_rfl) (ki_list K (pv 4)) (blkOk_by (N := N_endless_number) (own := [("number", 7)]) (by kernel_rfl)) (fun _ _ _ _ _ => (pg_name (i := 7) sc_endless_number.nd rfl (.inl rfl))) (fun _ _ _ _ _ => (pts_one (pt_cmpR op_notN (pv 7) pe_non (nomark _)))) (fun _ _ _ _ _ => (pv 7)))
      (pss_cons
      (ps_if (PW.pt (pw_or (pt_cmpR (ko_eqD K hr.units) (pv 5) (pe_lst pa_nil) (nomark _)) (pw_or1 (PW.pt (pw_and (pt_cmpR op_eq (pe_ix (kx_tup K) (pv 0) pe_int (fun _ _ => rfl)) pe_str (nomark _)) (pw_and1 (pt_cmpR op_lt (pe_callB (kc_len K) (by rfl) (z_len U) boot_len (pa_cons (pv 5) pa_nil)) (pe_callB (kc_len K) (by rfl) (z_len U) boot_len (pa_cons (pv 4) pa_nil)) (nomark _))))))))
       (pss_one
       (ps_ret pe_non))
       pss_nil)
      (pss_one
      (ps_ret (pe_ifExp (pt_cmpR op_eq (pe_ix (kx_tup K) (pv 0) pe_int (fun _ _ => rfl)) pe_str (nomark _)) (pe_callB (kc_min K) (by rfl) (z_min U) boot_min (pa_cons (pv 5) pa_nil)) (pe_callB (kc_sum K) (by rfl) (z_sum U) boot_sum (pa_cons (pv 5) pa_nil)))))))))), ?_⟩
    cases f with
    | kind s =>
      obtain ⟨a, rfl, ha⟩ := at_kind hv
      refine if_word rfl ha (fun _ => ?_) (fun z => absurd rfl z)
      refine ⟨_, rfl, a, _, 1, .str s, rfl, rfl, ha, atI_nat (j := 1) rfl, _, rfl, l, _, rfl, .inr hlot, rfl, flat_strs _, _, rfl, ?_⟩
      rw [in_strs]
      have := q H (Ex.refl H)
      rw [endless_kind] at this
      refine if_dec (fun z => ?_) fun z => ?_
      · rw [if_pos z] at this; exact this
      · rw [if_neg z] at this
        exact ⟨_, rfl, _, rfl, a, _, 1, .str s, rfl, rfl, ha, atI_nat (j := 1) rfl, r, _, rfl, hrow.get (by rw [names_kind]; exact List.mem_singleton_self _), this⟩
    | many m g =>
      obtain ⟨a, u, rfl, ha, hu⟩ := at_many hv
      refine if_word rfl ha (fun z => absurd z n_mk) (fun _ => if_word rfl ha (fun _ => ?_) (fun z => absurd rfl z))
      refine ⟨_, rfl, a, _, 2, u, rfl, rfl, ha, atI_nat (j := 2) rfl, _, rfl, _, rfl, u, g, r, l, ρ, L, rfl, hu, hok.many, ?_, by omega, ?_, hlot, fun H' e1 => ?_⟩
      · rw [depth_many] at hdep; omega
      · rw [names_many] at hrow; exact hrow
      · have := q H' e1
        rw [endless_many] at this
        refine ⟨_, rfl, rfl, _, rfl, if_dec (fun z => ?_) fun z => ?_⟩
        · cases he : endless ρ L g with
          | none => rw [he] at this; exact this
          | some t => rw [he] at z; cases z
        · cases he : endless ρ L g with
          | none => rw [he] at z; exact absurd rfl z
          | some t =>
            rw [he] at this
            exact ⟨_, rfl, _, rfl, a, _, 1, .int (m : Int), rfl, rfl, e1.st ha, atI_nat (j := 1) rfl, t, _, rfl, rfl, two_fdiv hok.two, this⟩
    | node b ps =>
      obtain ⟨a, c, us, rfl, ha, hc, hu⟩ := at_node hv
      refine if_word rfl ha (fun z => absurd z (n_nk b)) (fun _ => if_word rfl ha (fun z => absurd z (n_nm b)) (fun _ => ?_))
      have hl : ps.length ≤ 8 := hok.names_node
      have hdp : ∀ p ∈ ps, depth p < n := fun p hp => by
        rw [depth_node] at hdep
        have := depth_part hp
        omega
      refine ⟨_, rfl, a, _, 1, .ref c, rfl, rfl, ha, atI_nat (j := 1) rfl, c, rfl, ⟨us, hc⟩, fun D hD => ?_⟩
      refine map_tup (T := T) hc hu (fun p => some (oD (endless ρ L p))) (by omega) hD ?_ ?_
      · intro p x H' E N hp e hx _ hE
        exact ⟨rfl, _, rfl, _, rfl, _, rfl, x, p, r, l, ρ, L, rfl, hx, hok.part hp, hdp p hp, by omega, (hrow.ex e).sub (names_part hp).subset, e.st hlot, fun H3 e3 => hE _ rfl _ H3 e3 (flat_oD _) (dp_oV _)⟩
      intro ys H1 e1 hD1 hy
      rw [fm_some, show (ps.map fun p => oD (endless ρ L p)) = (ps.map (endless ρ L)).map oD by rw [List.map_map]; rfl] at hy
      have hlen : ys.length = ps.length := by rw [dpa_len hy, List.length_map, List.length_map]
      -- known
      refine ⟨_, rfl, D, rfl, ⟨ys, .inl (.inl hD1)⟩, fun D2 hD2 => ?_⟩
      refine map_lst (T := T) (.inl (.inl hD1)) hy (fun o => o.map PyData.int) (by rw [List.length_map]; omega) hD2 ?_ ?_
      · intro o x H' E N ho e hx h1 h2
        have := oV_of hx
        subst this
        refine ⟨rfl, _, rfl, rfl, _, rfl, ?_⟩
        rw [← decide_not]
        refine if_dec (fun z => ?_) fun z => ?_
        · cases o with
          | none => exact absurd rfl z
          | some t => exact ⟨_, rfl, h2 _ rfl _ H' (Ex.refl _) rfl (.int t)⟩
        · cases o with
          | none => exact h1 rfl H' (Ex.refl _)
          | some t => exact absurd (fun z => by cases z) z
      intro ys2 H2 e2 hD3 hy2
      rw [show (ps.map (endless ρ L)).filterMap (fun o => o.map PyData.int) = ((ps.map (endless ρ L)).filterMap id).map PyData.int by
        rw [List.map_filterMap]; rfl] at hy2
      have h3 := dpa_ints hy2
      subst h3
      have e12 := e1.trans e2
      refine ⟨_, rfl, Nat.zero_le _, fun p hp => ⟨.list (((ps.map (endless ρ L)).filterMap id).map PyData.int), .list [], ?_, ?_, shp_lst_ints _, shp_lst_ints [], _, rfl, ?_⟩⟩
      · exact .lst (.inl (.inl (by rw [upd_ne (ne_of_none hD3 hp)]; exact hD3))) (dpa_of_ints _)
      · exact .lst (.inl (.inl upd_same)) .nil
      have e3 : Ex T H (upd H2 p (.lst [])) := e12.trans (Ex.new hp)
      have hK : SqL K (upd H2 p (.lst [])) D2 (((ps.map (endless ρ L)).filterMap id).map V.int) := .inl (.inl (by rw [upd_ne (ne_of_none hD3 hp)]; exact hD3))
      have hKy : SqL K (upd H2 p (.lst [])) D ys := .inl (.inl ((e2.trans (Ex.new hp)).lst hD1))
      have hq := q _ e3
      rw [eqv_nil]
      have mapNil : ((ps.map (endless ρ L)).filterMap id).map PyData.int = [] ↔ (ps.map (endless ρ L)).filterMap id = [] := List.map_eq_nil_iff
      have done : (ps.map (endless ρ L)).filterMap id ≠ [] → (b = false → ¬ ((ps.map (endless ρ L)).filterMap id).length < ps.length) →
          tRet (tIf (tTest (tOp rEq (tOp (rIxT K) (tVar 0) (tC (.int 0))) (tC (.str "and")))) (tCB (rMin K) (tCons (tVar 5) tNil)) (tCB (rSum K) (tCons (tVar 5) tNil))) { nx := fun _ H' => Q .non H', rt := Q }
            [some (.ref a), some (.ref r), some (.ref l), none, some (.ref D), some (.ref D2), none, none] (upd H2 p (.lst [])) := by
        intro hne hb
        refine test_word rfl (e3.st ha) (if_dec (fun z => ?_) fun z => ?_)
        · rw [w_and] at z; subst z
          refine ⟨_, rfl, D2, _, rfl, hK, List.length_pos_iff.mpr hne, fun m hm hle => ?_⟩
          rw [lmin_unique hm hle]
          rw [endless_and, oMin_known, if_neg hne] at hq
          exact hq
        · rw [w_and] at z
          have z2 : b = false := by cases b; rfl; exact absurd rfl z
          subst z2
          refine ⟨_, rfl, D2, _, rfl, hK, ?_⟩
          rw [endless_or, oSum_known, List.length_map, if_neg (hb rfl)] at hq
          exact hq
      refine if_dec (fun z => ?_) fun z => ?_
      · -- known == []
        rw [mapNil] at z
        show Q .non _
        cases b with
        | true => rw [endless_and, oMin_known, if_pos z] at hq; exact hq
        | false =>
          rw [endless_or, oSum_known, if_pos (by rw [z, List.length_map]; have := hok.parts; simp only [List.length_nil]; omega)] at hq
          exact hq
      · rw [mapNil] at z
        refine test_word rfl (e3.st ha) ?_
        refine if_dec (fun z2 => ?_) fun z2 => ?_
        · rw [w_or] at z2; subst z2
          refine ⟨_, rfl, D2, _, rfl, .inl hK, _, rfl, D, _, rfl, .inl hKy, _, _, rfl, rfl, _, rfl, ?_⟩
          rw [List.length_map, hlen]
          refine if_dec (fun z3 => ?_) fun z3 => ?_
          · show Q .non _
            rw [endless_or, oSum_known, List.length_map, if_pos (by omega)] at hq
            exact hq
          · exact done z fun _ => by omega
        · have z3 : b = true := by
            cases b
            · exact absurd rfl z2
            · rfl
          exact done z fun y => by rw [z3] at y; cases y
end
end K23

/-! W4: side_number, sides_in. -/
namespace K23
open PySem PySem.Spec PyProof.Rows L2
section
variable {T : Tl} {P : Program} {w : World} {K : PySem.W.Frag} {mg : Str → Option Value} {base : Heap} {A : Nat → Addr} {D : Nat → FuncData}
/-! ### side_number -/
theorem b_side4 (U : Txt K mg A D) : Binds K (D 38) ["formula", "row", "side", "upwards"] [] := by
  obtain ⟨ds, r, b⟩ := (F_side_number U).binds1 (ps := ["formula", "row", "side", "upwards"]) 4 1 (by simp) rfl fun T kV doc pm an cdv ct us its hu hi => by
    match us, its, hu, hi with
    | [_, _, _, _], [_], _, _ => exact ⟨_, rfl, rfl⟩
  cases r
  exact b
theorem b_side3 (U : Txt K mg A D) : ∃ ds, Vals [V.bl false] ds ∧ Binds K (D 38) ["formula", "row", "side", "upwards"] ds :=
  (F_side_number U).binds1 (ps := ["formula", "row", "side", "upwards"]) 3 0 (by simp) rfl fun T kV doc pm an cdv ct us its hu hi => by
    match us, its, hu, hi with
    | [_, _, _], [_], _, _ => exact ⟨_, rfl, rfl⟩
def spSide (T : Tl) (K : PySem.W.Frag) (n : Nat) : Sp := fun vs H Q _ => ∃ (v : V) (f : Fm Str) (a l : Addr) (ρ : Str → Int) (S : List Str), vs = [v, .ref a, .ref l, .bl false] ∧ Dp K H v (enc f) ∧ FmOk f ∧ depth f < n ∧ n ≤ 24 ∧ RowOn H a f.names ρ ∧ SqT K H l (S.map V.str) ∧
  ∀ H', Ex T H H' → Q (.int (sideNum ρ S f)) H'
theorem ok_side_number (U : Txt K mg A D) : ∀ n, FnOk P w K mg base CX0 (n + 24) (A 38) (D 38) ["formula", "row", "side", "upwards"] (spSide T K n)
  | 0 => ⟨fun vs H Q E h => by obtain ⟨_, _, _, _, _, _, _, _, _, h, _⟩ := h; omega, fun _ _ _ H _ _ vs Q E _ _ _ _ h => by obtain ⟨_, _, _, _, _, _, _, _, _, h, _⟩ := h; omega⟩
  | n + 1 => by
    have G_side_number : FnOk P w K mg base CX0 (n + 24) (A 38) (D 38) ["formula", "row", "side", "upwards"] (spSide T K n) := ok_side_number U n
    have G_names_in : FnOk P w K mg base CX0 24 (A 14) (D 14) ["formula"] (spNames T K 24) := ok_names_in U 24
    have b_side_number := b_side4 (A := A) (D := D) (K := K) (mg := mg)
    refine FnOk.mono ((F_side_number U).ok (k := n + 24) sc_side_number (fun vs H Q E h => by obtain ⟨_, _, _, _, _, _, rfl, _⟩ := h; rfl) (fun cdv A' outer s H vs Q E hr h => ?_)) (by omega)
    obtain ⟨v, f, r, l, ρ, S, rfl, hv, hok, hdep, hn24, hrow, hlot, q⟩ := h
    refine ⟨_, PSs.nox (pss_cons
      (ps_if (pt_cmpR op_eq (pe_ix (kx_tup K) (pv 0) pe_int (fun _ _ => rfl)) pe_str (nomark _))
       (pss_one
       (ps_ret (pe_dget (hu_of hr) (pv 1) (pe_ix (kx_tup K) (pv 0) pe_int (fun _ _ => rfl)) (fun _ _ => rfl))))
       pss_nil)
      (pss_cons
      (ps_if (pt_cmpR op_eq (pe_ix (kx_tup K) (pv 0) pe_int (fun _ _ => rfl)) pe_str (nomark _))
       (pss_cons
       (ps_set (i := 4) sc_side_number.nd rfl (.inl rfl) (pe_f G_side_number hr (by omega) (g_side_number U) (F_side_number U).kp (b_side_number U) (pa_cons (pe_ix (kx_tup K) (pv 0) pe_int (fun _ _ => rfl)) (pa_cons (pv 1) (pa_cons (pv 2) (pa_cons (pv 3) pa_nil))))))
       (pss_one
       (ps_ret (pe_ifExp (pt_val (pv 3)) (pe_un un_neg (pe_op op_fdiv (pe_un un_neg (pv 4)) (pe_ix (kx_tup K) (pv 0) pe_int (fun _ _ => rfl)))) (pe_op op_fdiv (pv 4) (pe_ix (kx_tup K) (pv 0) pe_int (fun _ _ => rfl)))))))
       pss_nil)
      (pss_cons
      (ps_setLc (i := 5) (g := gName 6) rfl sc_side_number.nd rfl rfl (by kernel_rfl) (ki_tup K (pe_ix (kx_tup K) (pv 0) pe_int (fun _ _ => rfl))) (blkOk_by (N := N_side_number) (own := [("part", 6)]) (by kernel_rfl)) (fun _ _ _ _ _ => (pg_name (i := 6) sc_side_number.nd rfl (.inl rfl))) (fun _ _ _ _ _ => (pts_one (pt_val (pe_callB (kc_any K) (by rfl) (z_any U) boot_any (pa_cons (pe_lc (g := gName 7) (tt := tYes) rfl sc_side_number.nd (ki_list K (pe_f G_names_in hr (by omega) (g_names_in U) (F_names_in U).kp (b_names_in U) (pa_cons (pv 6) pa_nil))) (blkOk_by (N := N_side_number) (own := [("name", 7)]) (by kernel_rfl)) (fun _ _ _ _ _ => (pg_name (i := 7) sc_side_number.nd rfl (.inl rfl))) (fun _ _ _ _ _ => pts_nil) (fun _ _ _ _ _ => (pe_cmpR (ko_in K) (pv 7) (pv 2) rfl))) pa_nil))))) (fun _ _ _ _ _ => (pv 6)))
      (pss_one
      (ps_ret (pe_callB (kc_sum K) (by rfl) (z_sum U) boot_sum (pa_cons (pe_lc (g := gName 6) (tt := tYes) rfl sc_side_number.nd (ki_list K (pv 5)) (blkOk_by (N := N_side_number) (own := [("part", 6)]) (by kernel_rfl)) (fun _ _ _ _ _ => (pg_name (i := 6) sc_side_number.nd rfl (.inl rfl))) (fun _ _ _ _ _ => pts_nil) (fun _ _ _ _ _ => (pe_f G_side_number hr (by omega) (g_side_number U) (F_side_number U).kp (b_side_number U) (pa_cons (pv 6) (pa_cons (pv 1) (pa_cons (pv 2) (pa_cons (pv 3) pa_nil))))))) pa_nil))))))), ?_⟩
    cases f with
    | kind s =>
      obtain ⟨a, rfl, ha⟩ := at_kind hv
      refine if_word rfl ha (fun _ => ?_) (fun z => absurd rfl z)
      have := q H (Ex.refl H)
      rw [sideNum_kind] at this
      exact ⟨_, rfl, _, rfl, a, _, 1, .str s, rfl, rfl, ha, atI_nat (j := 1) rfl, r, _, rfl, hrow.get (by rw [names_kind]; exact List.mem_singleton_self _), this⟩
    | many m g =>
      obtain ⟨a, u, rfl, ha, hu⟩ := at_many hv
      refine if_word rfl ha (fun z => absurd z n_mk) (fun _ => if_word rfl ha (fun _ => ?_) (fun z => absurd rfl z))
      refine ⟨_, rfl, a, _, 2, u, rfl, rfl, ha, atI_nat (j := 2) rfl, _, rfl, _, rfl, _, rfl, u, g, r, l, ρ, S, rfl, hu, hok.many, ?_, by omega, ?_, hlot, fun H' e1 => ?_⟩
      · rw [depth_many] at hdep; omega
      · rw [names_many] at hrow; exact hrow
      · have := q H' e1
        rw [sideNum_many] at this
        exact ⟨_, rfl, _, rfl, _, rfl, _, rfl, a, _, 1, .int (m : Int), rfl, rfl, e1.st ha, atI_nat (j := 1) rfl, _, _, rfl, rfl, two_fdiv hok.two, this⟩
    | node b ps =>
      obtain ⟨a, c, us, rfl, ha, hc, hu⟩ := at_node hv
      refine if_word rfl ha (fun z => absurd z (n_nk b)) (fun _ => if_word rfl ha (fun z => absurd z (n_nm b)) (fun _ => ?_))
      have hl : ps.length ≤ 8 := hok.names_node
      have hdp : ∀ p ∈ ps, depth p < n := fun p hp => by
        rw [depth_node] at hdep
        have := depth_part hp
        omega
      refine ⟨_, rfl, a, _, 1, .ref c, rfl, rfl, ha, atI_nat (j := 1) rfl, c, rfl, ⟨us, hc⟩, fun D hD => ?_⟩
      refine map_tup (T := T) hc hu (fun p => if meets S p then some (enc p) else none) (by omega) hD ?_ ?_
      · intro p x H' E N hp e hx h1 h2
        refine ⟨rfl, _, rfl, x, p, rfl, hx, hok.part hp, by have := hdp p hp; omega, fun H3 t f3 e3 h3 => ⟨t, rfl, ⟨_, .inl (.inl h3)⟩, fun D2 hD2 => ?_⟩⟩
        have n8 : p.names.length ≤ 8 := (hok.part hp).few
        refine map_lst (T := T) (e := PyData.str) (as := p.names) (.inl (.inl h3)) (dpa_of_strs _) (fun x => some (.bool (decide (x ∈ S)))) (by omega) hD2 ?_ ?_
        · intro s0 x0 H4 E4 N4 hs0 e4 hx0 _ hE
          have := hx0.at_str
          subst this
          refine ⟨rfl, _, rfl, _, rfl, l, _, rfl, .inr (e4.st (e3.st (e.st hlot))), rfl, flat_strs _, ?_⟩
          rw [in_strs]
          exact hE _ rfl _ H4 (Ex.refl _) rfl (.bl _)
        · intro ys H4 e4 h4 hy
          rw [fm_some] at hy
          have hb : ys = (p.names.map fun x => decide (x ∈ S)).map V.bl := dpa_bls (by rw [List.map_map]; exact hy)
          subst hb
          refine ⟨D2, _, rfl, .inl (.inl h4), _, rfl, ?_⟩
          have hm : (p.names.map fun x => decide (x ∈ S)).any id = meets S p := by unfold meets; rw [List.any_map]; rfl
          rw [hm]
          have e34 := e3.trans e4
          cases hq : meets S p with
          | true => exact ⟨_, rfl, h2 _ (by rw [hq]; rfl) _ H4 e34 (flat_enc p) (e34.dp hx)⟩
          | false => exact h1 (by rw [hq]; rfl) H4 e34
      intro ys H1 e1 hD1 hy
      rw [fm_filter] at hy
      have hlm : (ps.filter (meets S)).length ≤ ps.length := List.length_filter_le _ _
      refine ⟨_, rfl, D, rfl, ⟨ys, .inl (.inl hD1)⟩, fun D2 hD2 => ?_⟩
      refine map_lst (T := T) (.inl (.inl hD1)) hy (fun p => some (.int (sideNum ρ S p))) (by omega) hD2 ?_ ?_
      · intro p x H' E N hp e hx _ hE
        have hp' : p ∈ ps := (List.mem_filter.mp hp).1
        exact ⟨rfl, _, rfl, _, rfl, _, rfl, _, rfl, x, p, r, l, ρ, S, rfl, hx, hok.part hp', hdp p hp', by omega, (hrow.ex (e1.trans e)).sub (names_part hp').subset, (e1.trans e).st hlot, fun H3 e3 => hE _ rfl _ H3 e3 rfl (.int _)⟩
      intro ys2 H2 e2 hD3 hy2
      rw [fm_some, show ((ps.filter (meets S)).map fun p => PyData.int (sideNum ρ S p)) = ((ps.filter (meets S)).map (sideNum ρ S)).map .int by rw [List.map_map]; rfl] at hy2
      have h3 := dpa_ints hy2
      subst h3
      refine ⟨D2, _, rfl, .inl (.inl hD3), ?_⟩
      have := q H2 (e1.trans e2)
      rw [sideNum_node, sideSum_eq] at this
      exact this
end
end K23
/-! W5: sides_in. -/
namespace K23
open PySem PySem.Spec PyProof.Rows L2
/-! ### how many sides, how long -/
section
variable {α : Type} [DecidableEq α]
theorem prodAll_sub : ∀ {ps : List (Fm α)}, (∀ p ∈ ps, ∀ s ∈ sidesIn p, s.Sublist p.names) → ∀ s ∈ prodAll (ps.map sidesIn), s.Sublist (ps.flatMap Fm.names)
  | [], _, s, hs => by
    rw [List.map_nil, prodAll] at hs
    rw [List.mem_singleton.mp hs]; exact List.nil_sublist _
  | p :: r, h, s, hs => by
    rw [List.map_cons, prodAll] at hs
    obtain ⟨a, ha, hs⟩ := List.mem_flatMap.mp hs
    obtain ⟨b, hb, rfl⟩ := List.mem_map.mp hs
    rw [List.flatMap_cons]
    exact (h p List.mem_cons_self a ha).append (prodAll_sub (fun q hq => h q (List.mem_cons_of_mem _ hq)) b hb)
theorem side_sub {f : Fm α} : ∀ s ∈ sidesIn f, s.Sublist f.names := by
  induction f using Fm.ind with
  | hk x => intro s hs; rw [sidesIn] at hs; rw [List.mem_singleton.mp hs, names_kind]; exact List.Sublist.refl _
  | hm n p ih => intro s hs; rw [sidesIn] at hs; rw [names_many]; exact ih s hs
  | hn b ps ih =>
    intro s hs
    rw [sidesIn, sidesL_eq] at hs
    rw [names_node]
    cases b with
    | true =>
      rw [if_pos rfl, List.mem_flatten] at hs
      obtain ⟨l, hl, hs⟩ := hs
      obtain ⟨p, hp, rfl⟩ := List.mem_map.mp hl
      exact (ih p hp s hs).trans (sub_flatMap hp)
    | false => exact prodAll_sub ih s hs
theorem prodAll_len : ∀ {ps : List (Fm α)}, (∀ p ∈ ps, (sidesIn p).length ≤ 2 ^ p.names.length) → (prodAll (ps.map sidesIn)).length ≤ 2 ^ (ps.flatMap Fm.names).length
  | [], _ => Nat.le_refl _
  | p :: r, h => by
    have i := prodAll_len fun q hq => h q (List.mem_cons_of_mem p hq)
    have hp := h p List.mem_cons_self
    rw [List.map_cons, prodAll, List.flatMap_cons, List.length_append, Nat.pow_add]
    have e : ∀ (l : List (List α)), (l.flatMap fun s => (prodAll (r.map sidesIn)).map (s ++ ·)).length = l.length * (prodAll (r.map sidesIn)).length := fun l => by
      induction l with
      | nil => simp
      | cons x t ih => rw [List.flatMap_cons, List.length_append, ih, List.length_map, List.length_cons, Nat.add_mul, Nat.one_mul, Nat.add_comm]
    rw [e]
    exact Nat.mul_le_mul hp i
theorem add_le_mul2 {x y X Y : Nat} (hx : x ≤ X) (hy : y ≤ Y) (h1 : 2 ≤ X) (h2 : 2 ≤ Y) : x + y ≤ X * Y := by
  rcases Nat.le_total X Y with h | h
  · have := Nat.mul_le_mul_right Y h1
    omega
  · have := Nat.mul_le_mul_left X h2
    omega
theorem flat_len {B : Nat} : ∀ {ps : List (Fm α)}, ps ≠ [] → (∀ p ∈ ps, Wf B p) → (∀ p ∈ ps, (sidesIn p).length ≤ 2 ^ p.names.length) → (ps.map sidesIn).flatten.length ≤ 2 ^ (ps.flatMap Fm.names).length ∧ 1 ≤ (ps.flatMap Fm.names).length
  | [], hne, _, _ => absurd rfl hne
  | [p], _, hw, h => by
    have := names_pos (hw p List.mem_cons_self)
    have hp := h p List.mem_cons_self
    simp at hp ⊢
    omega
  | p :: q :: t, _, hw, h => by
    have i := flat_len (List.cons_ne_nil q t) (fun x hx => hw x (List.mem_cons_of_mem p hx)) fun x hx => h x (List.mem_cons_of_mem p hx)
    have hp := h p List.mem_cons_self
    have h1 := names_pos (hw p List.mem_cons_self)
    rw [List.map_cons, List.flatten_cons, List.flatMap_cons, List.length_append, List.length_append, Nat.pow_add]
    refine ⟨add_le_mul2 hp i.1 ?_ ?_, by omega⟩
    · exact Nat.le_trans (show 2 ≤ 2 ^ 1 by decide) (Nat.pow_le_pow_right (by decide) h1)
    · exact Nat.le_trans (show 2 ≤ 2 ^ 1 by decide) (Nat.pow_le_pow_right (by decide) i.2)
theorem sides_few {B : Nat} {f : Fm α} (wf : Wf B f) : (sidesIn f).length ≤ 2 ^ f.names.length := by
  induction f using Fm.ind generalizing B with
  | hk x => rw [sidesIn, names_kind]; exact Nat.le_of_ble_eq_true rfl
  | hm n p ih => rw [sidesIn, names_many]; exact ih (Wf.many.mp wf).2.2
  | hn b ps ih =>
    rw [sidesIn, sidesL_eq, names_node]
    have hw := Wf.node.mp wf
    have hp : ∀ p ∈ ps, (sidesIn p).length ≤ 2 ^ p.names.length := fun p hp => ih p hp (hw.2 p hp)
    cases b with
    | true => exact (flat_len (fun z => by rw [z] at hw; simp at hw) hw.2 hp).1
    | false => exact prodAll_len hp
end
/-- a list of names that is new -/
def SideAt (H : Hp) (y : V) (s : List Str) : Prop := ∃ l, y = .ref l ∧ H l = some (.lst (s.map V.str))
theorem SideAt.keep (H H' : Hp) (y : V) (s : List Str) (e : KeepL H H') (h : SideAt H y s) : SideAt H' y s := by
  obtain ⟨l, h1, h2⟩ := h
  exact ⟨l, h1, e _ _ h2⟩
theorem newer_new {B H : Hp} {p : Addr} {o : HO} (h : ∀ a xs, B a = some (.lst xs) → ∃ ys, H a = some (.lst ys)) (hp : H p = none) : newer B (upd H p o) p = some o := by
  rw [newer_of fun xs z => by obtain ⟨ys, e⟩ := h p xs z; rw [hp] at e; cases e]; exact upd_same
section
variable {T : Tl} {P : Program} {w : World} {K : PySem.W.Frag} {mg : Str → Option Value} {base : Heap} {A : Nat → Addr} {D : Nat → FuncData}
/-! ### sides_in -/
def spSides (T : Tl) (K : PySem.W.Frag) (n : Nat) : Sp := fun vs H Q _ => ∃ (v : V) (f : Fm Str), vs = [v] ∧ Dp K H v (enc f) ∧ FmOk f ∧ depth f < n ∧
  ∀ H' p ys, Fr H p → Ex T H H' → H' p = some (.lst ys) → Paired (SideAt (newer H H')) ys (sidesIn f) → Q (.ref p) H'
theorem ok_sides_in (U : Txt K mg A D) : ∀ n, FnOk P w K mg base CX0 n (A 36) (D 36) ["formula"] (spSides T K n)
  | 0 => ⟨fun vs H Q E h => by obtain ⟨_, _, _, _, _, h, _⟩ := h; omega, fun _ _ _ H _ _ vs Q E _ _ _ _ h => by obtain ⟨_, _, _, _, _, h, _⟩ := h; omega⟩
  | n + 1 => by
    have G_sides_in : FnOk P w K mg base CX0 n (A 36) (D 36) ["formula"] (spSides T K n) := ok_sides_in U n
    refine (F_sides_in U).ok sc_sides_in (fun vs H Q E h => by obtain ⟨_, _, rfl, _⟩ := h; rfl) (fun cdv A' outer s H vs Q E hr h => ?_)
    obtain ⟨v, f, rfl, hv, hok, hdep, q⟩ := h
    refine ⟨_, PSs.nox (pss_cons
      (ps_if (pt_cmpR op_eq (pe_ix (kx_tup K) (pv 0) pe_int (fun _ _ => rfl)) pe_str (nomark _))
       (pss_one
       (ps_ret (pe_lst (pa_cons (pe_lst (pa_cons (pe_ix (kx_tup K) (pv 0) pe_int (fun _ _ => rfl)) pa_nil)) pa_nil))))
       pss_nil)
      (pss_cons
      (ps_if (pt_cmpR op_eq (pe_ix (kx_tup K) (pv 0) pe_int (fun _ _ => rfl)) pe_str (nomark _))
       (pss_one
       (ps_ret (pe_f G_sides_in hr (by omega) (g_sides_in U) (F_sides_in U).kp (b_sides_in U) (pa_cons (pe_ix (kx_tup K) (pv 0) pe_int (fun _ _ => rfl)) pa_nil))))
       pss_nil)
      (pss_cons
      (ps_if (pt_cmpR op_eq (pe_ix (kx_tup K) (pv 0) pe_int (fun _ _ => rfl)) pe_str (nomark _))
       (pss_one
       (ps_ret (pe_lc2 (g := gName 1) (tt := tYes) (g1 := gName 4) (tt1 := tYes) rfl sc_sides_in.nd (ki_tup K (pe_ix (kx_tup K) (pv 0) pe_int (fun _ _ => rfl))) (blkOk_by (N := N_sides_in) (own := [("part", 1), ("side", 4)]) (by kernel_rfl)) (vs1 := [4]) (by decide) (fun _ _ _ _ _ => (pg_name (i := 1) sc_sides_in.nd rfl (.inl rfl))) (fun _ _ _ _ _ => pts_nil) (fun _ _ _ _ _ => (ki_list K (pe_f G_sides_in hr (by omega) (g_sides_in U) (F_sides_in U).kp (b_sides_in U) (pa_cons (pv 1) pa_nil)))) (fun _ _ _ _ _ => (pg_name (i := 4) sc_sides_in.nd rfl (.inl rfl))) (fun _ _ _ _ _ => pts_nil) (fun _ _ _ _ _ => (pv 4)))))
       pss_nil)
      (pss_cons
      (ps_set (i := 2) sc_sides_in.nd rfl (.inl rfl) (pe_lst (pa_cons (pe_lst pa_nil) pa_nil)))
      (pss_cons
      (ps_for PassesOwn.never rfl (ki_tup K (pe_ix (kx_tup K) (pv 0) pe_int (fun _ _ => rfl))) (pg_name (i := 1) sc_sides_in.nd rfl (.inl rfl))
       (pss_cons
       (ps_set (i := 3) sc_sides_in.nd rfl (.inr rfl) (pe_f G_sides_in hr (by omega) (g_sides_in U) (F_sides_in U).kp (b_sides_in U) (pa_cons (pv 1) pa_nil)))
       (pss_one
       (ps_setLc2 (i := 2) (g := gName 4) (tt := tYes) (g1 := gName 5) (tt1 := tYes) rfl sc_sides_in.nd rfl rfl (by kernel_rfl) (ki_list K (pv 2)) (blkOk_by (N := N_sides_in) (own := [("side", 4), ("other", 5)]) (by kernel_rfl)) (vs1 := [5]) (by decide) (fun _ _ _ _ _ => (pg_name (i := 4) sc_sides_in.nd rfl (.inl rfl))) (fun _ _ _ _ _ => pts_nil) (fun _ _ _ _ _ => (ki_list K (pv 3))) (fun _ _ _ _ _ => (pg_name (i := 5) sc_sides_in.nd rfl (.inl rfl))) (fun _ _ _ _ _ => pts_nil) (fun _ _ _ _ _ => (pe_op op_cat (pv 4) (pv 5)))))))
      (pss_one
      (ps_ret (pv 2)))))))), ?_⟩
    cases f with
    | kind s =>
      obtain ⟨a, rfl, ha⟩ := at_kind hv
      refine if_word rfl ha (fun _ => ?_) (fun z => absurd rfl z)
      refine ⟨_, rfl, a, _, 1, .str s, rfl, rfl, ha, atI_nat (j := 1) rfl, sz_ok (n := 1) (by decide), fun p1 hp1 => ⟨sz_ok (n := 1) (by decide), fun p hp => ?_⟩⟩
      have e : Ex T H (upd (upd H p1 (.lst [.str s])) p (.lst [.ref p1])) := (Ex.new hp1).trans (Ex.new hp)
      refine q _ p _ (Fr.new (T := T) (Ex.new hp1) hp) e upd_same ?_
      rw [sidesIn]
      have ne : p1 ≠ p := fun z => by rw [z, upd_same] at hp; cases hp
      refine .cons ⟨p1, rfl, ?_⟩ .nil
      rw [newer_of (fun xs z => (by rw [hp1] at z; cases z)), upd_ne ne, upd_same]; rfl
    | many m g =>
      obtain ⟨a, u, rfl, ha, hu⟩ := at_many hv
      refine if_word rfl ha (fun z => absurd z n_mk) (fun _ => if_word rfl ha (fun _ => ?_) (fun z => absurd rfl z))
      refine ⟨_, rfl, a, _, 2, u, rfl, rfl, ha, atI_nat (j := 2) rfl, u, g, rfl, hu, hok.many, ?_, fun H' p ys h1 h2 h3 h4 => q H' p ys h1 h2 h3 ?_⟩
      · rw [depth_many] at hdep; omega
      · rw [sidesIn]; exact h4
    | node b ps =>
      obtain ⟨a, c, us, rfl, ha, hc, hu⟩ := at_node hv
      refine if_word rfl ha (fun z => absurd z (n_nk b)) (fun _ => if_word rfl ha (fun z => absurd z (n_nm b)) (fun _ => ?_))
      have hl : ps.length ≤ 8 := hok.names_node
      have hus : us.length = ps.length := by rw [dpa_len hu, List.length_map]
      have hdp : ∀ p ∈ ps, depth p < n := fun p hp => by
        rw [depth_node] at hdep
        have := depth_part hp
        omega
      have hall : (sidesIn (.node b ps)).length ≤ 2 ^ 8 := Nat.le_trans (sides_few hok.wf) (Nat.pow_le_pow_right (by decide) hok.few)
      refine if_word rfl ha (fun z => ?_) (fun z => ?_)
      · -- and
        rw [w_and] at z; subst z
        refine ⟨_, rfl, a, _, 1, .ref c, rfl, rfl, ha, atI_nat (j := 1) rfl, c, rfl, ⟨us, hc⟩, fun D hD => ?_⟩
        have hB : ∀ {H' : Hp}, Ex T H H' → (∃ acc, H' D = some (.lst acc)) → ∀ a xs, (upd H D (.lst [])) a = some (.lst xs) → ∃ ys, H' a = some (.lst ys) := fun {H'} e ⟨acc, h⟩ a xs q => by
          by_cases z : a = D
          · subst z; exact ⟨acc, h⟩
          · rw [upd_ne z] at q; exact ⟨xs, e.lst q⟩
        have hsd : sidesIn (.node true ps) = ps.flatMap sidesIn := by rw [sidesIn, sidesL_eq, if_pos rfl]; rfl
        rw [hsd] at hall
        refine flat_core (T := T) (as := ps) sidesIn SideAt SideAt.keep walk_tup hus.symm (by omega) (fun H' e => e.st hc) hD ?_ ?_
        · rintro j p x H' H'' C hp e hacc ⟨rfl, hx⟩ hC
          have hx2 : Dp K H'' x (enc p) := e.dp (at_dat hu hp hx)
          refine ⟨rfl, _, rfl, x, p, rfl, hx2, hok.part (List.mem_of_getElem? hp), hdp p (List.mem_of_getElem? hp), fun H3 l ys h1 h2 h3 h4 => ?_⟩
          obtain ⟨acc, hacc'⟩ := hacc
          have nD : l ≠ D := h1.ne hacc'
          refine ⟨l, rfl, ⟨_, .inl (.inl h3)⟩, hC _ _ (fun H => SqL K H l ys) (YAt ys) H3 h2 ?_ ?_ ?_⟩
          · have := walk_list (K := K) (a := l) (xs := ys)
            rw [← h4.length]
            exact this
          · intro H5 e5
            exact .inl (.inl (e5.lst (by rw [hide_ne nD]; exact h3)))
          · rintro j1 d x1 H5 H6 E hd e5 hacc5 ⟨rfl, hx1⟩ hE
            refine ⟨rfl, _, rfl, hE _ _ (Ex.refl _) ?_⟩
            obtain ⟨ly, rfl, h7⟩ := paired_get h4 hx1 hd
            obtain ⟨h8, h9⟩ := newer_back h7
            have nly : ly ≠ D := fun z => h9 _ (by rw [z]; exact hacc')
            refine ⟨ly, rfl, ?_⟩
            rw [newer_of fun xs z => by obtain ⟨zs, z'⟩ := hB e ⟨acc, hacc'⟩ ly xs z; exact h9 _ z']
            exact e5.lst (by rw [hide_ne nly]; exact h8)
        · intro ys H' e h1 h2
          refine q H' D ys (Fr.of hD) e h1 ?_
          rw [hsd]
          exact Paired.mapP h2 fun y d h => SideAt.keep _ _ y d (newer_mono fun a xs z => ⟨xs, by rw [upd_ne (ne_of_none z hD)]; exact z⟩) h
      · -- or
        have z2 : b = false := by
          cases b
          · rfl
          · exact absurd rfl z
        subst z2
        refine ⟨sz_ok (n := 0) (by decide), fun p0 hp0 => ⟨sz_ok (n := 1) (by decide), fun fo hfo => ?_⟩⟩
        have e0 : Ex T H (upd (upd H p0 (.lst [])) fo (.lst [.ref p0])) := (Ex.new hp0).trans (Ex.new hfo)
        refine ⟨_, rfl, a, _, 1, .ref c, rfl, rfl, e0.st ha, atI_nat (j := 1) rfl, c, rfl, ⟨us, e0.st hc⟩, ?_⟩
        refine for_it (walk_tup (xs := us)) (fun i σ H' => ∃ y1 y3 fo ys, σ = [some (.ref a), y1, some (.ref fo), y3, none, none] ∧ Fr H fo ∧ Ex T H H' ∧ H' fo = some (.lst ys) ∧ Paired (SideAt (newer H H')) ys (((ps.take i).map sidesIn).foldl prod1 [[]])) ?_ ?_ ?_ ?_
        · refine ⟨none, none, fo, [.ref p0], rfl, Fr.new (T := T) (Ex.new hp0) hfo, e0, upd_same, ?_⟩
          have ne : p0 ≠ fo := fun z => by rw [z, upd_same] at hfo; cases hfo
          exact .cons ⟨p0, rfl, by rw [newer_of (fun xs z => (by rw [hp0] at z; cases z)), upd_ne ne, upd_same]; rfl⟩ .nil
        · rintro i σ H' _ ⟨_, _, _, _, _, _, e, _⟩
          exact e.st hc
        · rintro i x σ H' H'' hi ⟨y1, y3, fo, ys, rfl, hfr, e, hf, hP⟩ ⟨rfl, hx⟩
          obtain ⟨p, hp⟩ : ∃ p, ps[i]? = some p := ⟨ps[i]'(by omega), List.getElem?_eq_getElem (by omega)⟩
          have hpm : p ∈ ps := List.mem_of_getElem? hp
          have hx2 : Dp K H'' x (enc p) := e.dp (at_dat hu hp hx)
          refine ⟨_, rfl, x, p, rfl, hx2, hok.part hpm, hdp p hpm, fun H3 l ys' h1 h2 h3 h4 => ?_⟩
          have e3 := e.trans h2
          refine ⟨_, rfl, fo, rfl, ⟨ys, .inl (.inl (h2.lst hf))⟩, fun D hD => ?_⟩
          have hB : ∀ {H' : Hp}, Ex T H3 H' → (∃ acc, H' D = some (.lst acc)) → ∀ a xs, (upd H3 D (.lst [])) a = some (.lst xs) → ∃ ys, H' a = some (.lst ys) := fun {H'} e ⟨acc, h⟩ a xs q => by
            by_cases z : a = D
            · subst z; exact ⟨acc, h⟩
            · rw [upd_ne z] at q; exact ⟨xs, e.lst q⟩
          have hsub : ∀ t ∈ prodAll ((ps.take i).map sidesIn), t.length ≤ 8 := fun t ht => by
            have h5 : ((ps.take i).flatMap Fm.names).Sublist ((Fm.node false ps).names) := by
              rw [names_node]
              have e6 : ps = ps.take i ++ ps.drop i := (List.take_append_drop _ _).symm
              conv => rhs; rw [e6, List.flatMap_append]
              exact List.sublist_append_left _ _
            exact Nat.le_trans ((prodAll_sub (fun p _ => side_sub) t ht).trans h5).length_le hok.few
          have hsub2 : ∀ t ∈ sidesIn p, t.length ≤ 8 := fun t ht => Nat.le_trans (side_sub t ht).length_le (hok.part hpm).few
          have hnext : ((ps.take (i + 1)).map sidesIn).foldl prod1 [[]] = (((ps.take i).map sidesIn).foldl prod1 [[]]).flatMap fun s => (sidesIn p).map (s ++ ·) := by
            rw [take_snoc hp, List.map_append, List.foldl_append]; rfl
          have hcnt : ((((ps.take i).map sidesIn).foldl prod1 [[]]).flatMap (fun s => (sidesIn p).map (s ++ ·))).length ≤ 2 ^ 8 := by
            rw [← hnext, fold_prod]
            refine Nat.le_trans (prodAll_len fun p' hp' => sides_few ((hok.part (List.mem_of_mem_take hp')).wf)) (Nat.pow_le_pow_right (by decide) ?_)
            refine Nat.le_trans (List.Sublist.length_le ?_) hok.few
            rw [names_node]
            have e6 : ps = ps.take (i + 1) ++ ps.drop (i + 1) := (List.take_append_drop _ _).symm
            conv => rhs; rw [e6, List.flatMap_append]
            exact List.sublist_append_left _ _
          have nlD : l ≠ D := fun z => by rw [z, hD] at h3; cases h3
          refine flat_core (T := T) (as := ((ps.take i).map sidesIn).foldl prod1 [[]]) (fun s => (sidesIn p).map (s ++ ·)) SideAt SideAt.keep walk_list hP.length.symm (Nat.le_trans hcnt (by decide)) (fun H' e => .inl (.inl ((h2.trans e).lst hf))) hD ?_ ?_
          · rintro j sd y H4 H5 C hsd e4 hacc4 ⟨rfl, hy⟩ hC
            obtain ⟨ly, rfl, h7⟩ := paired_get hP hy hsd
            obtain ⟨h8, h9⟩ := newer_back h7
            have h8' : H3 ly = some (.lst (sd.map V.str)) := h2.lst h8
            have nly : ly ≠ D := fun z => by rw [z, hD] at h8'; cases h8'
            refine ⟨rfl, _, rfl, l, rfl, ⟨ys', .inl (.inl (e4.lst h3))⟩, hC _ _ (fun H => SqL K H l ys') (YAt ys') H5 (Ex.refl _) ?_ ?_ ?_⟩
            · have := walk_list (K := K) (a := l) (xs := ys')
              rw [List.length_map, ← h4.length]
              exact this
            · intro H6 e6
              exact .inl (.inl (e6.lst (by rw [hide_ne nlD]; exact e4.lst h3)))
            · rintro j1 d x1 H6 H7 E hd e6 hacc6 ⟨rfl, hx1⟩ hE
              rw [List.getElem?_map] at hd
              obtain ⟨t, ht, rfl⟩ := Option.map_eq_some_iff.mp hd
              obtain ⟨lt, rfl, g7⟩ := paired_get h4 hx1 ht
              obtain ⟨g8, g9⟩ := newer_back g7
              have nlt : lt ≠ D := fun z => by rw [z, hD] at g8; cases g8
              have a1 : H7 ly = some (.lst (sd.map V.str)) := e6.lst (by rw [hide_ne nly]; exact e4.lst h8')
              have a2 : H7 lt = some (.lst (t.map V.str)) := e6.lst (by rw [hide_ne nlt]; exact e4.lst g8)
              have c1 := hsub sd (by rw [← fold_prod]; exact List.mem_of_getElem? hsd)
              have c2 := hsub2 t (List.mem_of_getElem? ht)
              refine ⟨rfl, _, rfl, _, rfl, ly, lt, _, _, rfl, rfl, a1, a2, ?_, fun np hnp => hE _ _ (Ex.new hnp) ⟨np, rfl, ?_⟩⟩
              · rw [List.length_map, List.length_map]; exact sz_ok (by omega)
              · obtain ⟨ac4, hac4⟩ := hacc4
                rw [newer_new (hB ((e4.hid hD hac4).trans e6) hacc6) hnp, List.map_append]
          · intro zs H' e' hz1 hz2
            refine ⟨_, _, D, zs, rfl, Fr.new e3 hD, e3.trans e', hz1, ?_⟩
            rw [hnext]
            exact Paired.mapP hz2 fun y d h => SideAt.keep _ _ y d (newer_mono fun a xs z => ⟨xs, by rw [upd_ne (ne_of_none (e3.lst z) hD)]; exact e3.lst z⟩) h
        · rintro σ H' ⟨y1, y3, fo, ys, rfl, hfr, e, hf, hP⟩
          refine ⟨_, rfl, q H' fo ys hfr e hf ?_⟩
          rw [show ps.take us.length = ps by rw [hus]; exact List.take_length, fold_prod] at hP
          rw [sidesIn, sidesL_eq]
          exact hP
end
end K23
/-! W6: cut_formula. -/
namespace K23
open PySem PySem.Spec PyProof.Rows L2
/-! ### data of a shape that == takes -/
theorem strOk_of {s : Str} (h : ∀ c ∈ s.cps.toList, c < 1114112) : PyData.strOk s = true := by
  unfold PyData.strOk
  rw [← Array.all_toList]
  exact List.all_eq_true.mpr fun c hc => decide_eq_true (h c hc)
theorem IsNm.ok {s : Str} (h : IsNm s) : PyData.strOk s = true := strOk_of fun c hc => by have := h.2.2 c hc; omega
mutual
theorem can_enc : ∀ f : Fm Str, (∀ s ∈ f.names, PyData.strOk s = true) → (enc f).canLay0 = true
  | .kind s, h => by
    rw [enc_kind, PyData.canLay0, PyData.canLayAll0, PyData.canLayAll0, PyData.canLayAll0, PyData.canLay0, PyData.canLay0, h s (by rw [names_kind]; exact List.mem_singleton_self _)]
    decide +kernel
  | .many n p, h => by
    rw [enc_many, PyData.canLay0, PyData.canLayAll0, PyData.canLayAll0, PyData.canLayAll0, PyData.canLayAll0, PyData.canLay0, PyData.canLay0, can_enc p (fun s hs => h s (by rw [names_many]; exact hs))]
    decide +kernel
  | .node b ps, h => by
    rw [enc, PyData.canLay0, PyData.canLayAll0, PyData.canLayAll0, PyData.canLayAll0, PyData.canLay0, PyData.canLay0, can_encL ps (fun s hs => h s (by rw [Fm.names]; exact hs))]
    cases b <;> decide +kernel
theorem can_encL : ∀ ps : List (Fm Str), (∀ s ∈ namesL ps, PyData.strOk s = true) → PyData.canLayAll0 (encL ps) = true
  | [], _ => by rw [encL, PyData.canLayAll0]
  | p :: r, h => by
    rw [encL, PyData.canLayAll0, can_enc p fun s hs => h s (by rw [namesL]; exact List.mem_append_left _ hs), can_encL r fun s hs => h s (by rw [namesL]; exact List.mem_append_right _ hs)]; rfl
end
mutual
theorem depth_enc : ∀ f : Fm Str, (enc f).depth ≤ 2 * depth f + 1
  | .kind s => by rw [enc_kind, PyData.depth, PyData.depthAll, PyData.depthAll, PyData.depthAll, PyData.depth, PyData.depth]; omega
  | .many n p => by
    have := depth_enc p
    rw [enc_many, PyData.depth, PyData.depthAll, PyData.depthAll, PyData.depthAll, PyData.depthAll, PyData.depth, PyData.depth, depth_many]; omega
  | .node b ps => by
    have := depth_encL ps
    rw [enc, PyData.depth, PyData.depthAll, PyData.depthAll, PyData.depthAll, PyData.depth, PyData.depth, depth_node]; omega
theorem depth_encL : ∀ ps : List (Fm Str), PyData.depthAll (encL ps) ≤ 2 * depthL ps + 1
  | [] => by rw [encL, PyData.depthAll]; omega
  | p :: r => by
    have h1 := depth_enc p
    have h2 := depth_encL r
    rw [encL, PyData.depthAll, depthL]; omega
end
theorem shp_encs {ps : List (Fm Str)} (h : ∀ p ∈ ps, FmOk p) (hd : ∀ p ∈ ps, depth p ≤ 24) : SeqAt.shaped (.tuple (ps.map enc)) = true := by
  unfold SeqAt.shaped
  rw [PyData.canLay0, ← encL_eq, can_encL ps, PyData.depth]
  · have h1 := depth_encL ps
    have h2 := depthL_le (n := 24) hd
    exact decide_eq_true (by omega)
  · intro s hs
    obtain ⟨p, hp, hs⟩ := mem_namesL.mp hs
    exact ((h p hp).nm s hs).ok
theorem shp_nilT : SeqAt.shaped (.tuple []) = true := by
  unfold SeqAt.shaped
  rw [PyData.canLay0, PyData.canLayAll0, PyData.depth, PyData.depthAll]; rfl
theorem w_bb (b c : Bool) : ((if b then "and" else "or" : Str) = (if c then "and" else "or" : Str)) ↔ b = c := by
  cases b <;> cases c
  · exact ⟨fun _ => rfl, fun _ => rfl⟩
  · exact ⟨fun z => absurd z n_oa, fun z => by cases z⟩
  · exact ⟨fun z => absurd z.symm n_oa, fun z => by cases z⟩
  · exact ⟨fun _ => rfl, fun _ => rfl⟩
/-- a formula, or None -/
def oF : Option (Fm Str) → PyData
  | none => .none
  | some g => enc g
theorem flat_oF (o : Option (Fm Str)) : flatD (oF o) = true := by cases o with
  | none => rfl
  | some g => exact flat_enc g
theorem enc_ref {K : PySem.W.Frag} {H : Hp} {v : V} {f : Fm Str} (h : Dp K H v (enc f)) : ∃ a, v = .ref a := by
  cases f with
  | kind s => obtain ⟨a, e, _⟩ := at_kind h; exact ⟨a, e⟩
  | many n p => obtain ⟨a, _, e, _⟩ := at_many h; exact ⟨a, e⟩
  | node b ps => obtain ⟨a, _, _, e, _⟩ := at_node h; exact ⟨a, e⟩
/-- x is None, of a formula or None -/
theorem oF_isN {K : PySem.W.Frag} {H : Hp} {v : V} {o : Option (Fm Str)} (h : Dp K H v (oF o)) : decide (v = .non) = o.isNone := by
  cases o with
  | none => rw [h.at_none]; rfl
  | some g => obtain ⟨a, rfl⟩ := enc_ref h; rfl
theorem FmOk.cut {L : List Str} {word : Bool} {f g : Fm Str} (h : FmOk f) (e : K23.cut L word f = some g) : FmOk g := by
  obtain ⟨h1, h2, _⟩ := cut_wf h.wf e
  exact ⟨h1, h.nd.sublist h2, Nat.le_trans h2.length_le h.few, fun s hs => h.nm s (h2.subset hs)⟩
theorem cut_depth {L : List Str} {word : Bool} {f : Fm Str} : ∀ {g : Fm Str}, K23.cut L word f = some g → depth g ≤ depth f := by
  induction f using Fm.ind with
  | hk s =>
    intro g h
    rw [cut_kind] at h
    by_cases q : s ∈ L
    · rw [if_pos q] at h; cases h
    · rw [if_neg q] at h; cases h; exact Nat.le_refl _
  | hm n p ih =>
    intro g h
    rw [cut_many] at h
    obtain ⟨g', h1, rfl⟩ := Option.map_eq_some_iff.mp h
    have := ih h1
    rw [depth_many, depth_many]; omega
  | hn b ps ih =>
    intro g h
    rw [cut_node] at h
    have key : ∀ x ∈ cutL L word ps, depth x ≤ depthL ps := fun x hx => by
      rw [cutL_eq] at hx
      obtain ⟨p, hp, e⟩ := List.mem_filterMap.mp hx
      exact Nat.le_trans (ih p hp e) (depth_part hp)
    rcases rejoin_cases (b := b) (word := word) (many := ps.length) (left := cutL L word ps) with ⟨h1, _⟩ | ⟨_, ⟨x, h1, h2⟩ | ⟨_, h2⟩⟩
    · rw [h1] at h; cases h
    · rw [h2] at h; cases h
      rw [depth_node]
      have := key g (by rw [h1]; exact List.mem_singleton_self _)
      omega
    · rw [h2] at h; cases h
      rw [depth_node, depth_node]
      have := depthL_le key
      omega
section
variable {T : Tl} {P : Program} {w : World} {K : PySem.W.Frag} {mg : Str → Option Value} {base : Heap} {A : Nat → Addr} {D : Nat → FuncData}
/-! ### cut_formula -/
def spCut (T : Tl) (K : PySem.W.Frag) (n : Nat) : Sp := fun vs H Q _ => ∃ (v : V) (f : Fm Str) (l : Addr) (L : List Str) (wb : Bool), vs = [v, .ref l, .str (if wb then "and" else "or")] ∧ Dp K H v (enc f) ∧ FmOk f ∧ depth f < n ∧ n ≤ 24 ∧ SqT K H l (L.map V.str) ∧
  ∀ H' v', Ex T H H' → Dp K H' v' (oF (cut L wb f)) → Q v' H'
theorem ok_cut_formula (U : Txt K mg A D) : ∀ n, FnOk P w K mg base CX0 n (A 31) (D 31) ["formula", "lot", "word"] (spCut T K n)
  | 0 => ⟨fun vs H Q E h => by obtain ⟨_, _, _, _, _, _, _, _, h, _⟩ := h; omega, fun _ _ _ H _ _ vs Q E _ _ _ _ h => by obtain ⟨_, _, _, _, _, _, _, _, h, _⟩ := h; omega⟩
  | n + 1 => by
    have G_cut_formula : FnOk P w K mg base CX0 n (A 31) (D 31) ["formula", "lot", "word"] (spCut T K n) := ok_cut_formula U n
    refine (F_cut_formula U).ok sc_cut_formula (fun vs H Q E h => by obtain ⟨_, _, _, _, _, rfl, _⟩ := h; rfl) (fun cdv A' outer s H vs Q E hr h => ?_)
    obtain ⟨v, f, l, L, wb, rfl, hv, hok, hdep, hn24, hlot, q⟩ := h
    refine ⟨_, PSs.nox (pss_cons
      (ps_if (pt_cmpR op_eq (pe_ix (kx_tup K) (pv 0) pe_int (fun _ _ => rfl)) pe_str (nomark _))
       (pss_one
       (ps_ret (pe_ifExp (pt_cmpR (ko_in K) (pe_ix (kx_tup K) (pv 0) pe_int (fun _ _ => rfl)) (pv 1) rfl) pe_non (pv 0))))
       pss_nil)
      (pss_cons
      (ps_if (pt_cmpR op_eq (pe_ix (kx_tup K) (pv 0) pe_int (fun _ _ => rfl)) pe_str (nomark _))
       (pss_cons
       (ps_set (i := 3) sc_cut_formula.nd rfl (.inl rfl) (pe_f G_cut_formula hr (by omega) (g_cut_formula U) (F_cut_formula U).kp (b_cut_formula U) (pa_cons (pe_ix (kx_tup K) (pv 0) pe_int (fun _ _ => rfl)) (pa_cons (pv 1) (pa_cons (pv 2) pa_nil)))))
       (pss_one
       (ps_ret (pe_ifExp (pt_cmpR op_isN (pv 3) pe_non (nomark _)) pe_non (pe_tup (pa_cons pe_str (pa_cons (pe_ix (kx_tup K) (pv 0) pe_int (fun _ _ => rfl)) (pa_cons (pv 3) pa_nil))))))))
       pss_nil)
      (pss_cons
      (ps_setLc (i := 4) (g := gName 3) (tt := tYes) rfl sc_cut_formula.nd rfl rfl (by kernel_rfl) (ki_tup K (pe_ix (kx_tup K) (pv 0) pe_int (fun _ _ => rfl))) (blkOk_by (N := N_cut_formula) (own := [("part", 3)]) (by kernel_rfl)) (fun _ _ _ _ _ => (pg_name (i := 3) sc_cut_formula.nd rfl (.inl rfl))) (fun _ _ _ _ _ => pts_nil) (fun _ _ _ _ _ => (pe_f G_cut_formula hr (by omega) (g_cut_formula U) (F_cut_formula U).kp (b_cut_formula U) (pa_cons (pv 3) (pa_cons (pv 1) (pa_cons (pv 2) pa_nil))))))
      (pss_cons
      (ps_set (i := 5) sc_cut_formula.nd rfl (.inl rfl) (pe_callTy (kc_tuple K) (by rfl) (z_tuple U) boot_tuple (pa_cons (pe_lc (g := gName 3) rfl sc_cut_formula.nd (ki_list K (pv 4)) (blkOk_by (N := N_cut_formula) (own := [("part", 3)]) (by kernel_rfl)) (fun _ _ _ _ _ => (pg_name (i := 3) sc_cut_formula.nd rfl (.inl rfl))) (fun _ _ _ _ _ => (pts_one (pt_cmpR op_notN (pv 3) pe_non (nomark _)))) (fun _ _ _ _ _ => (pv 3))) pa_nil)))
      (pss_cons
      (ps_if (PW.pt (pw_or (pt_cmpR (ko_eqD K hr.units) (pv 5) (pe_tup pa_nil) (nomark _)) (pw_or1 (PW.pt (pw_and (pt_cmpR op_eq (pe_ix (kx_tup K) (pv 0) pe_int (fun _ _ => rfl)) (pv 2) (nomark _)) (pw_and1 (pt_cmpR op_lt (pe_callB (kc_len K) (by rfl) (z_len U) boot_len (pa_cons (pv 5) pa_nil)) (pe_callB (kc_len K) (by rfl) (z_len U) boot_len (pa_cons (pv 4) pa_nil)) (nomark _))))))))
       (pss_one
       (ps_ret pe_non))
       pss_nil)
      (pss_one
      (ps_ret (pe_ifExp (pt_cmpR op_eq (pe_callB (kc_len K) (by rfl) (z_len U) boot_len (pa_cons (pv 5) pa_nil)) pe_int (nomark _)) (pe_ix (kx_tup K) (pv 5) pe_int (fun _ _ => rfl)) (pe_tup (pa_cons (pe_ix (kx_tup K) (pv 0) pe_int (fun _ _ => rfl)) (pa_cons (pv 5) pa_nil))))))))))), ?_⟩
    cases f with
    | kind s =>
      obtain ⟨a, rfl, ha⟩ := at_kind hv
      refine if_word rfl ha (fun _ => ?_) (fun z => absurd rfl z)
      refine ⟨_, rfl, a, _, 1, .str s, rfl, rfl, ha, atI_nat (j := 1) rfl, _, rfl, l, _, rfl, .inr hlot, rfl, flat_strs _, _, rfl, ?_⟩
      rw [in_strs]
      have hq := fun v' => q H v' (Ex.refl H)
      rw [cut_kind] at hq
      refine if_dec (fun z => ?_) fun z => ?_
      · rw [if_pos z] at hq; exact hq _ .non
      · rw [if_neg z] at hq
        exact ⟨_, rfl, hq _ hv⟩
    | many m g =>
      obtain ⟨a, u, rfl, ha, hu⟩ := at_many hv
      refine if_word rfl ha (fun z => absurd z n_mk) (fun _ => if_word rfl ha (fun _ => ?_) (fun z => absurd rfl z))
      refine ⟨_, rfl, a, _, 2, u, rfl, rfl, ha, atI_nat (j := 2) rfl, _, rfl, _, rfl, u, g, l, L, wb, rfl, hu, hok.many, ?_, by omega, hlot, fun H' v' e1 hv' => ?_⟩
      · rw [depth_many] at hdep; omega
      · have hq := fun H2 v2 (e2 : Ex T H' H2) => q H2 v2 (e1.trans e2)
        rw [cut_many] at hq
        refine ⟨_, rfl, rfl, _, rfl, ?_⟩
        rw [oF_isN hv']
        cases he : cut L wb g with
        | none => rw [he] at hq; exact hq H' _ (Ex.refl _) .non
        | some g' =>
          rw [he] at hq hv'
          refine ⟨_, rfl, a, _, 1, .int (m : Int), rfl, rfl, e1.st ha, atI_nat (j := 1) rfl, _, rfl, sz_ok (n := 3) (by decide), fun p hp => hq _ _ (Ex.new hp) ?_⟩
          show Dp K _ _ (enc (.many m g'))
          rw [enc_many]
          exact .tup (.inl (.inl upd_same)) (.cons (.str _) (.cons (.int _) (.cons ((Ex.new (T := T) hp).dp hv') .nil)))
    | node b ps =>
      obtain ⟨a, c, us, rfl, ha, hc, hu⟩ := at_node hv
      refine if_word rfl ha (fun z => absurd z (n_nk b)) (fun _ => if_word rfl ha (fun z => absurd z (n_nm b)) (fun _ => ?_))
      have hl : ps.length ≤ 8 := hok.names_node
      have hdp : ∀ p ∈ ps, depth p < n := fun p hp => by
        rw [depth_node] at hdep
        have := depth_part hp
        omega
      refine ⟨_, rfl, a, _, 1, .ref c, rfl, rfl, ha, atI_nat (j := 1) rfl, c, rfl, ⟨us, hc⟩, fun D hD => ?_⟩
      refine map_tup (T := T) hc hu (fun p => some (oF (cut L wb p))) (by omega) hD ?_ ?_
      · intro p x H' E N hp e hx _ hE
        exact ⟨rfl, _, rfl, _, rfl, _, rfl, x, p, l, L, wb, rfl, hx, hok.part hp, hdp p hp, by omega, e.st hlot, fun H3 v3 e3 h3 => hE _ rfl _ H3 e3 (flat_oF _) h3⟩
      intro ys H1 e1 hD1 hy
      rw [fm_some, show (ps.map fun p => oF (cut L wb p)) = (ps.map (cut L wb)).map oF by rw [List.map_map]; rfl] at hy
      have hlen : ys.length = ps.length := by rw [dpa_len hy, List.length_map, List.length_map]
      -- left
      refine ⟨_, rfl, D, rfl, ⟨ys, .inl (.inl hD1)⟩, fun D2 hD2 => ?_⟩
      refine map_lst (T := T) (.inl (.inl hD1)) hy (fun o => o.map enc) (by rw [List.length_map]; omega) hD2 ?_ ?_
      · intro o x H' E N ho e hx h1 h2
        refine ⟨rfl, _, rfl, rfl, _, rfl, ?_⟩
        rw [oF_isN hx]
        cases o with
        | none => exact h1 rfl H' (Ex.refl _)
        | some g => exact ⟨_, rfl, h2 _ rfl _ H' (Ex.refl _) (flat_enc g) hx⟩
      intro ys2 H2 e2 hD3 hy2
      rw [show (ps.map (cut L wb)).filterMap (fun o => o.map enc) = (cutL L wb ps).map enc by
        rw [cutL_eq, List.filterMap_map, List.map_filterMap]; rfl] at hy2
      have e12 := e1.trans e2
      have hlen2 : ys2.length = (cutL L wb ps).length := by rw [dpa_len hy2, List.length_map]
      refine ⟨D2, ys2, rfl, .inl ⟨.inl (.inl hD3), fun t ht => ?_⟩⟩
      have e3 : Ex T H (upd H2 t (.tup ys2)) := e12.trans (Ex.new ht)
      refine ⟨_, rfl, Nat.zero_le _, fun p hp => ?_⟩
      have e4 : Ex T H (upd (upd H2 t (.tup ys2)) p (.tup [])) := e3.trans (Ex.new hp)
      have hcl : ∀ x ∈ cutL L wb ps, FmOk x ∧ depth x ≤ 24 := fun x hx => by
        rw [cutL_eq] at hx
        obtain ⟨y, hy, e⟩ := List.mem_filterMap.mp hx
        have h1 := cut_depth e
        have h2 := hdp y hy
        exact ⟨(hok.part hy).cut e, by omega⟩
      have hT : SqT K (upd (upd H2 t (.tup ys2)) p (.tup [])) t ys2 := .inl (.inl ((Ex.new (T := T) hp).tup upd_same))
      have hY : DpAll K (upd (upd H2 t (.tup ys2)) p (.tup [])) ys2 ((cutL L wb ps).map enc) := (Ex.new (T := T) hp).dpa ((Ex.new (T := T) ht).dpa hy2)
      refine ⟨.tuple ((cutL L wb ps).map enc), .tuple [], .tup hT hY, .tup (.inl (.inl upd_same)) .nil, shp_encs (fun x hx => (hcl x hx).1) (fun x hx => (hcl x hx).2), shp_nilT, _, rfl, ?_⟩
      rw [eqv_nilT]
      have hLy : SqL K (upd (upd H2 t (.tup ys2)) p (.tup [])) D ys := .inl (.inl (((e2.trans (Ex.new ht)).trans (Ex.new hp)).lst hD1))
      have hq := fun H' v' (e' : Ex T (upd (upd H2 t (.tup ys2)) p (.tup [])) H') => q H' v' (e4.trans e')
      rw [cut_node] at hq
      have hnil : (cutL L wb ps).map enc = [] ↔ cutL L wb ps = [] := List.map_eq_nil_iff
      have wordEq : decide (V.str (if b then "and" else "or") = V.str (if wb then "and" else "or")) = decide (b = wb) := decide_eq_decide.mpr ⟨fun z => (w_bb b wb).mp (V.str.inj z), fun z => by rw [z]⟩
      have none_ : (cutL L wb ps = [] ∨ (b = wb ∧ (cutL L wb ps).length < ps.length)) → Q .non (upd (upd H2 t (.tup ys2)) p (.tup [])) := fun z => by
        unfold rejoin at hq
        rw [if_pos z] at hq
        exact hq _ _ (Ex.refl _) .non
      have some_ : ¬ (cutL L wb ps = [] ∨ (b = wb ∧ (cutL L wb ps).length < ps.length)) →
          tRet (tIf (tTest (tOp rEq (tCB (rLenQ K) (tCons (tVar 5) tNil)) (tC (.int 1)))) (tOp (rIxT K) (tVar 5) (tC (.int 0))) (tTup (tCons (tOp (rIxT K) (tVar 0) (tC (.int 0))) (tCons (tVar 5) tNil)))) { nx := fun _ H' => Q .non H', rt := Q }
            [some (.ref a), some (.ref l), some (.str (if wb then "and" else "or")), none, some (.ref D), some (.ref t)] (upd (upd H2 t (.tup ys2)) p (.tup [])) := fun z => by
        refine ⟨_, rfl, t, ys2, rfl, .inr hT, rfl, _, rfl, if_dec (fun z1 => ?_) fun z1 => ?_⟩
        · have l1 : ys2.length = 1 := by have := V.int.inj z1; omega
          rcases rejoin_cases (b := b) (word := wb) (many := ps.length) (left := cutL L wb ps) with ⟨_, h2⟩ | ⟨_, ⟨x, h1, h2⟩ | ⟨h1, _⟩⟩
          · exact absurd h2 z
          · rw [h2] at hq
            rw [h1] at hY
            cases hY with
            | cons h3 h4 =>
              cases h4
              exact ⟨_, rfl, t, _, 0, _, rfl, rfl, hT, atI_nat (j := 0) rfl, hq _ _ (Ex.refl _) h3⟩
          · omega
        · have l1 : ys2.length ≠ 1 := fun h => z1 (by rw [h]; rfl)
          rcases rejoin_cases (b := b) (word := wb) (many := ps.length) (left := cutL L wb ps) with ⟨_, h2⟩ | ⟨_, ⟨x, h1, h2⟩ | ⟨h1, h2⟩⟩
          · exact absurd h2 z
          · rw [h1] at hlen2; exact absurd hlen2 l1
          · rw [h2] at hq
            refine ⟨_, rfl, a, _, 0, _, rfl, rfl, e4.st ha, atI_nat (j := 0) rfl, _, rfl, sz_ok (n := 2) (by decide), fun p2 hp2 => hq _ _ (Ex.new hp2) ?_⟩
            show Dp K _ _ (enc (.node b (cutL L wb ps)))
            rw [enc_node]
            exact .tup (.inl (.inl upd_same)) (.cons (.str _) (.cons (.tup ((Ex.new (T := T) hp2).st hT) ((Ex.new (T := T) hp2).dpa hY)) .nil))
      refine if_dec (fun z => none_ (.inl (hnil.mp z))) fun z => ?_
      rw [hnil] at z
      refine ⟨_, rfl, a, _, 0, _, rfl, rfl, e4.st ha, atI_nat (j := 0) rfl, _, rfl, rfl, _, rfl, ?_⟩
      rw [wordEq]
      refine if_dec (fun z2 => ?_) fun z2 => ?_
      · refine ⟨_, rfl, t, _, rfl, .inr hT, _, rfl, D, _, rfl, .inl hLy, _, _, rfl, rfl, _, rfl, ?_⟩
        rw [hlen, hlen2]
        refine if_dec (fun z3 => none_ (.inr ⟨z2, by omega⟩)) fun z3 => some_ fun y => ?_
        rcases y with y | ⟨_, y⟩
        · exact z y
        · omega
      · exact some_ fun y => by
          rcases y with y | ⟨y, _⟩
          · exact z y
          · exact z2 y
end
end K23
set_option maxHeartbeats 4000000
/-! S1: sorted(set(t)), t a tuple of texts that may repeat. -/
namespace K23
open PySem PySem.Spec PyProof.Rows L2
open PySem.Froz (SD sObj TxOk addTx tailTx)
def uniq : List Str → List Str
  | [] => []
  | x :: r => if x ∈ r then uniq r else x :: uniq r
theorem mem_uniq {x : Str} : ∀ {l : List Str}, x ∈ uniq l ↔ x ∈ l
  | [] => Iff.rfl
  | y :: r => by
    unfold uniq
    split
    · rename_i h
      rw [mem_uniq, List.mem_cons]
      exact ⟨.inr, fun z => z.elim (fun e => e ▸ h) id⟩
    · rw [List.mem_cons, List.mem_cons, mem_uniq]
theorem uniq_nodup : ∀ l : List Str, (uniq l).Nodup
  | [] => .nil
  | y :: r => by
    unfold uniq
    split
    · exact uniq_nodup r
    · rename_i h
      exact List.nodup_cons.mpr ⟨fun z => h (mem_uniq.mp z), uniq_nodup r⟩
theorem uniq_len : ∀ l : List Str, (uniq l).length ≤ l.length
  | [] => Nat.le_refl _
  | y :: r => by
    have := uniq_len r
    unfold uniq
    split
    · rw [List.length_cons]; omega
    · rw [List.length_cons, List.length_cons]; omega
section
variable {P : Program} {w : World} {A : Around} {E : Value → Shared → Prop} {s : Shared}
/-- a set of texts that can be walked -/
structure Txs (P : Program) (w : World) (h : Heap) (a : Addr) (l : List Str) : Prop where
  ex : ∃ D : SD, h.get? a = some (sObj "set" D) ∧ TxOk P w D l ∧ Ris D.2.2.place.toList ∧ (w.params.followText "set-order" = true ∨ D.2.2.led = true)
  nd : l.Nodup
theorem Txs.at {h h' : Heap} {a : Addr} {l : List Str} (S : Txs P w h a l) (k : ∀ o, h.get? a = some o → h'.get? a = some o) : Txs P w h' a l := by
  obtain ⟨D, h1, h2⟩ := S.ex
  exact ⟨⟨D, k _ h1, h2⟩, S.nd⟩
theorem add_ris {D : SD} {k : Str} {u : Tok} (r : Ris D.2.2.place.toList) : Ris (addTx (hashStr w k) (.str k u) D).2.2.place.toList ∧ (addTx (hashStr w k) (.str k u) D).2.2.led = D.2.2.led := by
  obtain ⟨es, ep, t⟩ := D
  have r1 := layNew_ris t es (hashStr w k) (.str k u) r
  have l1 := layNew_led t es (hashStr w k) (.str k u)
  have key : ∀ t2 : SetTable, Ris t2.place.toList → t2.led = t.led → ∀ es1 (wd : Bool), Ris (tailTx ep es1 t2 wd).2.2.place.toList ∧ (tailTx ep es1 t2 wd).2.2.led = t.led := by
    intro t2 a b es1 wd
    unfold tailTx
    split
    · exact ⟨relayAll_ris t2 es1 _, (relayAll_led t2 es1 _).trans b⟩
    · exact ⟨a, b⟩
  refine key _ ?_ ?_ _ _
  · split
    · exact r1
    · exact r1
  · split
    · exact l1
    · exact l1
/-- one more text, or one that is there -/
theorem txs_add {a : Addr} {l : List Str} {k : Str} {u : Tok} {Q : Bool → Shared → Prop} (S : Txs P w s.heap a l) (hb : l.length + 1 < scanBound)
    (hq : ∀ b h' l', Heap.SameBut a s.heap h' → Txs P w h' a l' → (∀ x, x ∈ l' ↔ x ∈ l ∨ x = k) → l'.length ≤ l.length + 1 → Q b { s with heap := h' }) :
    wpAny (model P w) A (setAddHashed a (.str k u) (hashStr w k)) Q E s := by
  obtain ⟨D, h1, h2, h3, h4⟩ := S.ex
  by_cases hk : k ∈ l
  · obtain ⟨es, ep, t⟩ := D
    have hel : ElemsOf (strKind P w) es.toList := h2.el
    have hb0 : es.size < scanBound := by
      have e : es.size = l.length := h2.sz
      omega
    have kk : (strKind P w).is k (.str k u) = true := Froz.is_str k u
    have hd : (sObj "set" (es, ep, t)).data = .set es ep t := rfl
    unfold setAddHashed setAddHashedIn
    refine wpAny_holding (wpAny_bind ?_)
    refine wpAny_setState_of h1 hd h2.fit ?_
    dsimp only
    rw [byScan_of (x := Value.str k u) rfl hb0 hel, if_pos rfl]
    unfold setAddByScan
    refine wpAny_bind (wpAny_bind (wpAny_rule (wpAny_bind ?_)))
    refine wpAny_setScan_of (knd := strKind P w) (k := k) kk h1 hd h2.fit hel ?_
    cases hf : List.findIdx? (fun e => (strKind P w).is k e.2) es.toList with
    | none =>
      obtain ⟨e, he, q⟩ := (h2.mem k).mp hk
      have c := List.findIdx?_eq_none_iff.mp hf e he
      rw [q] at c
      cases c
    | some j =>
      dsimp only
      refine wpAny_pure (wpAny_pure ?_)
      exact hq _ s.heap l (Heap.SameBut.refl a s.heap) S (fun x => ⟨.inl, fun z => z.elim id fun e => e ▸ hk⟩) (Nat.le_succ _)
  · refine Froz.add_x h1 h2 hk hb (hq _ _ (k :: l) (Heap.SameBut.update s.heap a _) ⟨⟨_, Froz.get_upd _ h1 rfl, Froz.add_ok u h2, (add_ris h3).1, h4.imp id fun z => ?_⟩, List.nodup_cons.mpr ⟨hk, S.nd⟩⟩ (fun x => ?_) (Nat.le_refl _))
    · rw [(add_ris h3).2]; exact z
    · rw [List.mem_cons]; exact Or.comm
/-- the update's loop over texts -/
theorem txs_loop {I : Addr} {fp wr : List Addr} {G : Array GenState → Array GenState → Prop} {n : Nat} {Pv : Nat → Value → Prop} {St : Nat → Shared → Prop} {R : Result → Shared → Prop} (W : WalksS P w A.in1 I fp wr G n Pv St) (S : Addr) (out : S ∉ fp) (xs : List Str) (hn : xs.length = n) (few : xs.length < 64)
    (val : ∀ i v, Pv i v → ∃ x t, xs[i]? = some x ∧ v = .str x t) : ∀ (todo i : Nat) (s : Shared) (l : List Str), i + todo = n → St i s → Txs P w s.heap S l → (∀ x, x ∈ l ↔ x ∈ xs.take i) → l.length ≤ i →
      (∀ s' l', Moved (S :: wr) G s s' → Txs P w s'.heap S l' → (∀ x, x ∈ l' ↔ x ∈ xs) → l'.length ≤ n → R (.ok (.ret .none)) s') → codeAny (model P w) A (.builtin "set.update.loop" ⟨[.ref S, .ref I], []⟩) R s := by
  have apart : S ∉ wr := fun z => out (W.sub _ z)
  have wide : ∀ b ∈ wr, b ∈ S :: wr := fun b z => List.mem_cons.mpr (.inr z)
  intro todo
  induction todo with
  | zero =>
    intro i s l e st tx mem len fin
    have e' : i = n := by omega
    cases e'
    apply codeAny_builtin F.entry_set_update_loop
    rw [Around.under_plainId F.plain_set_update_loop _]
    refine wpAny_bind (m := pyNext (.ref I)) (W.done s _ _ st fun s2 mv => wpAny_pure ?_)
    refine fin s2 l (mv.mono wide) (tx.at fun o h => mv.heap S o apart h) (fun x => ?_) len
    rw [mem x, ← hn, List.take_length]
  | succ todo ih =>
    intro i s l e st tx mem len fin
    apply codeAny_builtin F.entry_set_update_loop
    rw [Around.under_plainId F.plain_set_update_loop _]
    refine wpAny_bind (m := pyNext (.ref I)) (W.item i s _ _ (by omega) st fun v s2 pv st2 mv => ?_)
    obtain ⟨x, t, hx, rfl⟩ := val i v pv
    have tx2 : Txs P w s2.heap S l := tx.at fun o h => mv.heap S o apart h
    refine wpAny_bind (m := holding [Value.str x t] (setAdd S (.str x t))) (wpAny_holding ?_)
    unfold setAdd
    refine wpAny_holding (wpAny_bind ((strKind P w).pyHash (k := x) (strKind_is _ _ _ _) ?_))
    refine txs_add (s := { s2 with toks := s2.toks + 1 }) tx2 (by unfold scanBound; omega) fun b h' l' sb tx3 mem3 len3 => ?_
    refine wpAny_pure ⟨plainId_quiet F.plain_set_update_loop _, ?_⟩
    refine ih (i + 1) _ l' (by omega) (W.frame _ s2 _ _ st2 (Nat.le_succ _) fun b hb o ho => ?_) tx3 (fun y => ?_) (by omega) fun s4 l4 mv4 tx4 mem4 len4 => ?_
    · exact (sb.2 b fun z => out (z ▸ hb)).trans ho
    · rw [mem3 y, mem y, List.take_succ, hx, List.mem_append]
      simp
    · have stay : ∀ b o, b ∉ S :: wr → s2.heap.get? b = some o → h'.get? b = some o := fun b o hb ho => (sb.2 b fun z => hb (z ▸ List.mem_cons_self)).trans ho
      exact fin s4 l4 (Moved.trans W.gtrans ((mv.mono wide).then_heap (Nat.le_succ _) stay) mv4) tx4 mem4 len4
def freshSet (w : World) : Obj := { cls := .type "set", dict := none, data := .set #[] 0 (.fresh 0 0 (!w.params.followText "set-order")) }
theorem txs_new {h : Heap} {a : Addr} (ho : h.get? a = some (freshSet w)) : Txs P w h a [] where
  ex := ⟨(#[], 0, .fresh 0 0 (!w.params.followText "set-order")), ho, Froz.TxOk.nil rfl, List.Pairwise.nil, by
    show _ ∨ (!w.params.followText "set-order") = true
    cases w.params.followText "set-order" <;> simp⟩
  nd := .nil
/-- set(t), t a tuple of texts -/
theorem call_set_txt {l : Addr} {its : Array Value} {xs : List Str} {Q : Value → Shared → Prop} (calm : A.handled = none) (tup : s.heap.IsTuple l its) (are : StrsAre its.toList xs) (few : xs.length < 64)
    (fin : ∀ (h' : Heap) (tk : Nat) (l' : List Str), Txs P w h' s.heap.objs.size l' → (∀ x, x ∈ l' ↔ x ∈ xs) → l'.length ≤ xs.length → (∀ b o, s.heap.get? b = some o → h'.get? b = some o) → Q (.ref s.heap.objs.size) { s with heap := h', toks := tk }) :
    wpAny (model P w) A (call (.type "set") [.ref l]) Q E s := by
  obtain ⟨c0, tl0, mro0⟩ := F.called_set.mro
  have made0 := F.called_set.made; have sub0 := F.called_set.sub
  apply wpAny_call; apply codeAny_of_tree
  show wpAny _ _ (callAny (.type "set") _) _ _ _
  apply wpAny_pure; refine ⟨Code.quiet_builtin _ (by decide +kernel), ?_⟩; apply codeAny_builtin F.entry_type_call
  rw [Around.under_plain (weight_type_call_type "set" [.ref l] []) rfl]
  have nt0 := F.called_set.notType; have cc0 := F.called_set.canCreate; have tc0 := F.typeCall_set_1 (.ref l)
  repeat (any_goals (first | assumption | wp_step))

  refine codeAny_mono (code_set_led1 (E := E) (.ref l) (Q₁ := fun ob s₁ => ob = .ref s.heap.objs.size ∧ s₁ = { s with heap := s.heap.push (freshSet w) }) ⟨rfl, rfl⟩) ?_
  rintro (e | (_ | _ | _ | ob)) s₁ hr
  · exact hr
  iterate 3 exact hr.elim
  · obtain ⟨rfl, rfl⟩ := hr
    have at0 : (s.heap.push (freshSet w)).get? s.heap.objs.size = some (freshSet w) := Heap.get?_push_size _ rfl
    have ty0 : Shared.TypeIs { s with heap := s.heap.push (freshSet w) } (.ref s.heap.objs.size) "set" := ⟨_, at0, rfl⟩
    have li0 := F.called_set.init.lookup; have bi0 := F.called_set.init.bind (.ref s.heap.objs.size)
    repeat (any_goals (first | assumption | wp_step))

    refine codeAny_mono (codeAny_call_builtin (R := wants (fun r s₂ => r = .none ∧ ∃ h' tk l', s₂ = { s with heap := h', toks := tk } ∧ Txs P w h' s.heap.objs.size l' ∧ (∀ x, x ∈ l' ↔ x ∈ xs) ∧ l'.length ≤ xs.length ∧ (∀ b o, s.heap.get? b = some o → h'.get? b = some o)) E)
      F.called_set.init.plain F.entry_set_init (check_set_init_1 ty0 ?_)) ?_
    · obtain ⟨⟨cls0, dict0, data0, slots0⟩, got, isT, n0, seq0⟩ := tup
      simp only at isT seq0
      cases isT; cases seq0
      have got1 : (s.heap.push (freshSet w)).get? l = some { cls := .type "tuple", dict := dict0, data := .seq its n0, slots := slots0 } := Heap.get?_push_of_some _ got
      have sb1 := F.sub_tuple_set; have sb2 := F.sub_tuple_frozenset
      have ne0 : (Value.type "tuple" == Value.type "dict") = false := by decide
      have tup1 : (s.heap.push (freshSet w)).IsTuple l its := ⟨_, got1, rfl, n0, rfl⟩
      unfold Builtin.«set.__init__» noKeywords Builtin.Frozenset.updateFrom
      generalize hPI : pyIter = PI
      wp_walk
      subst hPI

      apply wpAny_pyIter_tuple tup1
      apply wpAny_bind; apply wpAny_runValue
      have lt0 : l < s.heap.objs.size := Heap.lt_size got
      have calm3 : A.in1.in1.in1.handled = none := by simp [calm]
      have neI : l ≠ (s.heap.push (freshSet w)).objs.size := by rw [Heap.size_push]; exact Nat.ne_of_lt (Nat.lt_trans lt0 (Nat.lt_succ_self _))
      have out0 : s.heap.objs.size ∉ [(s.heap.push (freshSet w)).objs.size, l] := by
        rw [Heap.size_push, List.mem_cons, List.mem_singleton]
        exact fun z => z.elim (Nat.ne_of_lt (Nat.lt_succ_self _)) (fun z => Nat.ne_of_lt lt0 z.symm)
      have sz0 : xs.length = its.size := by rw [← StrsAre.len_eq are, Array.length_toList]
      have val0 : ∀ (i : Nat) (v : Value), its[i]? = some v → ∃ x t, xs[i]? = some x ∧ v = .str x t := fun i v hv => by
        have hi : i < xs.length := by rw [sz0]; exact (Array.getElem?_eq_some_iff.mp hv).1
        obtain ⟨t, e⟩ := SS.strs_at are i v (by rw [Array.getElem?_toList]; exact hv)
        exact ⟨xs[i], t, List.getElem?_eq_getElem hi, by rw [e, List.getD_eq_getElem?_getD, List.getElem?_eq_getElem hi]; rfl⟩
      refine txs_loop ((Walks.tuple calm3 _ l neI its).toS) s.heap.objs.size out0 xs sz0 few val0 its.size 0 _ [] (Nat.zero_add _) ⟨⟨_, Heap.get?_push_size _ rfl, rfl, rfl⟩, (tup1.push _)⟩ (txs_new (Heap.get?_push_of_some _ at0)) (fun x => by simp) (Nat.le_refl _) ?_
      rintro ⟨h', g', d', tk', os'⟩ l' mv tx mem len
      have eg : g' = s.gens := mv.gens
      have ed : d' = s.drawn := mv.drawn
      have eo : os' = s.os := mv.os
      cases eg; cases ed; cases eo
      show wpAny _ _ _ _ _ _
      apply wpAny_pure
      show wpAny _ _ (ret Value.none) _ _ _
      refine wpAny_pure ⟨rfl, h', tk', l', rfl, tx, mem, by rw [sz0]; exact len, fun b o hb => ?_⟩
      have lt1 := Heap.lt_size hb
      refine mv.heap b o ?_ (Heap.get?_push_of_some _ (Heap.get?_push_of_some _ hb))
      rw [Heap.size_push, List.mem_cons, List.mem_singleton]
      exact fun z => z.elim (fun z => Nat.ne_of_lt lt1 z) (fun z => Nat.ne_of_lt (Nat.lt_trans lt1 (Nat.lt_succ_self _)) z)
    · rintro (e | (_ | _ | _ | r)) s₂ hr₂
      · exact hr₂
      iterate 3 exact hr₂.elim
      · obtain ⟨rfl, h', tk, l', rfl, tx, mem, len, kp⟩ := hr₂
        repeat (any_goals (first | assumption | wp_step))
        exact fin _ _ _ tx mem len kp
end
end K23
set_option maxHeartbeats 4000000
/-! S2: sorted of such a set, and the two at one place. -/
namespace K23
open PySem PySem.Spec PyProof.Rows L2
open PySem.Froz (SD sObj TxOk)
theorem perm_of_sub {α : Type} : ∀ {l k : List α}, l.Nodup → (∀ x ∈ l, x ∈ k) → k.length ≤ l.length → l.Perm k
  | [], k, _, _, h => by
    have : k = [] := List.length_eq_zero_iff.mp (Nat.le_zero.mp h)
    rw [this]
  | x :: l, k, n, s, h => by
    obtain ⟨n1, n2⟩ := List.nodup_cons.mp n
    obtain ⟨a, b, rfl⟩ := List.append_of_mem (s x List.mem_cons_self)
    have m : (a ++ x :: b).Perm (x :: (a ++ b)) := List.perm_middle
    refine List.Perm.trans (List.Perm.cons x (perm_of_sub n2 (fun y hy => ?_) ?_)) m.symm
    · rcases List.mem_cons.mp (m.mem_iff.mp (s y (List.mem_cons_of_mem _ hy))) with z | z
      · exact absurd (z ▸ hy) n1
      · exact z
    · have := m.length_eq
      rw [List.length_cons] at this h
      omega
def strOf : Value → Str
  | .str x _ => x
  | _ => Str.empty
section
variable {P : Program} {w : World} {A : Around} {E : Value → Shared → Prop} {s : Shared}
theorem is_strOf {e : Int × Value} {es : List (Int × Value)} (h : ElemsOf (strKind P w) es) (he : e ∈ es) : ∃ t, e.2 = .str (strOf e.2) t := by
  obtain ⟨⟨k, hk, _⟩, _⟩ := h e he
  obtain ⟨t, e2⟩ := Value.isStrOf_shape hk
  exact ⟨t, by rw [e2]; rfl⟩
theorem sorted_txs {a : Addr} {l : List Str} {Q : Value → Shared → Prop} (S : Txs P w s.heap a l) (calm : A.handled = none) (few : l.length < 64)
    (fin : ∀ s' p (out : Array Value) (c : Nat) (ys : List Str), (∀ b o, s.heap.get? b = some o → s'.heap.get? b = some o) → s'.gens = s.gens → s'.os = s.os → s.heap.objs.size ≤ p → s'.heap.get? p = some (seqObj "list" out c) → StrsAre out.toList ys → ys.Perm l → sortedS ys = true → Q (.ref p) s') :
    wpAny (model P w) A (call (.builtin "sorted") [.ref a]) Q E s := by
  obtain ⟨⟨es, ep, t⟩, ho, ok, ris, led⟩ := S.ex
  have hsz : es.size = l.length := ok.sz
  apply Calls.call_function_entry kind_sorted plain_sorted entry_sorted (args_sorted1 _)
  unfold Builtin.«sorted»
  apply wpAny_bind (m := checkCount "sorted" 1 1 _); apply wpAny_pure; apply wpAny_bind
  refine collect_set (A := A.in1) (a := a) (es := es) (ep := ep) (t := t) calm ⟨_, ho, rfl, rfl⟩ ok.fit (by rw [hsz]; unfold scanBound; omega) ris led ?_
  intro s1 vs k1 hz g1 o1 pm
  have el : ElemsOf (strKind P w) es.toList := ok.el
  have vlen : vs.length = l.length := by rw [pm.length_eq, List.length_map, Array.length_toList]; exact hsz
  have isS : ∀ v ∈ vs, ∃ t, v = .str (strOf v) t := fun v hv => by
    obtain ⟨e, he, q⟩ := List.mem_map.mp (pm.mem_iff.mp hv)
    rw [← q]
    exact is_strOf el he
  have are : StrsAre vs (vs.map strOf) := by
    clear pm vlen
    induction vs with
    | nil => exact .nil
    | cons v vs ih =>
      obtain ⟨t, e⟩ := isS v List.mem_cons_self
      rw [List.map_cons, e]
      exact .cons _ t (ih fun u hu => isS u (List.mem_cons_of_mem _ hu))
  have pl : (vs.map strOf).Perm l := (perm_of_sub S.nd (fun x hx => by
    obtain ⟨e, he, q⟩ := (ok.mem x).mp hx
    obtain ⟨t, e2⟩ := Value.isStrOf_shape q
    refine List.mem_map.mpr ⟨e.2, pm.mem_iff.mpr (List.mem_map.mpr ⟨e, he, rfl⟩), ?_⟩
    rw [e2]; rfl) (by rw [List.length_map, vlen]; exact Nat.le_refl _)).symm
  apply wpAny_bind
  refine wpAny_newList ?_ (by rw [vlen, sizeLine_eq]; omega)
  have at1 : (s1.heap.push (seqObj "list" vs.toArray 0)).get? s1.heap.objs.size = some (seqObj "list" vs.toArray 0) := Heap.get?_push_size _ rfl
  apply wpAny_bind; apply wpAny_holding
  refine wpAny_call_entry slot_list_sort ⟨_, at1, rfl⟩ entry_list_sort (list_sort_treeK strKind_oneLt at1 are.keysOf (fun v₁ v₂ rest e => keyKind_strs (by rw [← e]; exact are)) (by omega) fun st' hp hs => ?_) (args_list_sort _)
  obtain ⟨ys, y1, y2, y3⟩ := sorted_out_str are hp hs
  obtain ⟨c, hc⟩ := sortedHeap_at (vs := vs) (out := (arrOf st').map (·.2)) at1
  refine ⟨_, rfl, wpAny_pure ⟨_, rfl, ?_⟩⟩
  refine fin _ s1.heap.objs.size _ c ys (fun b u e => ?_) g1 o1 hz hc y1 (y2.trans pl) y3
  have got := k1 b u e
  have lt1 := Heap.lt_size got
  show (sortedHeap (s1.heap.push (seqObj "list" vs.toArray 0)) s1.heap.objs.size vs ((arrOf st').map (·.2))).get? b = _
  rw [sortedHeap_old (Nat.ne_of_lt lt1) (by rw [size_push']; exact Nat.lt_succ_of_lt lt1)]
  exact Heap.get?_push_of_some _ got
end
section
variable {X : Cx}
/-- sorted(set(t)), t a tuple of texts -/
def tSortSet (K : PySem.W.Frag) (ta : TE) : TE := fun σ H Q => ta σ H fun x H1 => ∃ (l : Addr) (ss : List Str), x = .ref l ∧ SqT K H1 l (ss.map V.str) ∧ ss.length < 64 ∧ ∀ p, H1 p = none → Q (.ref p) (upd H1 p (.lst ((sortN (uniq ss)).map V.str)))
theorem pe_sortset (K : PySem.W.Frag) {a : Expr} {ta : TE} {p p2 q pos : Pos} (hm : X.mg "sorted" = none) (hm2 : X.mg "set" = none) (ha : PE X a ta) (hc : X.calm = true := by rfl) (hK : X.K = K := by rfl) (hg : Gl X "sorted" := by rfl) (hg2 : Gl X "set" := by rfl)
    (na : starEach [a] X.env = (false, eval a X.env) :: starEach [] X.env := by rfl) :
    PE X (.Call (.Name "sorted" p) [.Call (.Name "set" p2) [a] [] q] [] pos) (tSortSet K ta) := by
  subst hK
  constructor
  intro pins s σ H Q I h
  refine Call_ (ld_blt I hg hm boot_sorted ?_)
  refine callWith_builtin1 (args_cons ?_ rfl) rfl rfl
  refine Call_ (ld_blt I hg2 hm2 boot_set ?_)
  refine callWith_type1 (args_cons (thn (ha.run pins s σ H _ I h) ?_) na) na rfl
  rintro v s1 ⟨x, H1, I1, r1, l, ss, rfl, hq, few, q1⟩
  cases r1
  apply args_nil
  obtain ⟨its, rv, tup, hz⟩ := I1.tuple hq
  refine call_set_txt (I1.ok.hd hc) tup (xs := ss) (by simpa using rv.strs) few fun h' tk l' tx mem len kp => ?_
  have I2 : Inv X pins σ H1 { s1 with heap := h', toks := tk } := I1.kept kp
  apply args_nil
  refine sorted_txs tx (I2.ok.hd hc) (by omega) fun s' p out c ys k g o hp hg are pm so => ?_
  have ey : ys = sortN (uniq ss) := by
    rw [sortedS_is pm so]
    exact sortN_perm_eq ((List.perm_ext_iff_of_nodup tx.nd (uniq_nodup ss)).mpr fun x => (mem x).trans mem_uniq.symm)
  have hlen : ys.length ≤ ss.length := by rw [pm.length_eq]; exact len
  have hn : H1 p = none := I2.hok.fresh hp
  have J : Inv X pins σ (upd H1 p (.lst (ys.map V.str))) s' := by
    refine I2.call' (ch := []) o (Un.laid k hp hn) (I2.hok.laid k hp ⟨?_, out.toList, c, vals_of_strs are, hg⟩) (by rw [g]; exact I2.bare) (fun _ z => nomatch z)
    rw [List.length_map, sizeLine_eq]
    omega
  refine ⟨.ref p, _, J, rfl, ?_⟩
  rw [ey]
  exact q1 p hn
end
end K23
/-! S3: for i, x in enumerate(t), t a tuple. -/
namespace PySem
open Sem (wp)
open AutoSeq1 (wpAny_loadPart')
theorem k23_meets_enumT (l : Addr) (its : Array Value) (n : Nat) (di : Option Addr) (sl : Array (Option Value)) :
    Meets (Builtin.«enumerate.__new__» ⟨[.type "enumerate", .ref l], []⟩) (fun _ R s => s.heap.get? l = some { cls := .type "tuple", dict := di, data := .seq its n, slots := sl } ∧ R (.ok (.ret (.ref (s.heap.push { cls := .type "tuple_iterator", data := .fields #[.ref l, .int 0 0] }).objs.size)))
        { s with heap := (s.heap.push { cls := .type "tuple_iterator", data := .fields #[.ref l, .int 0 0] }).push { cls := .type "enumerate", data := .fields #[.none, .bool false, .ref s.heap.objs.size, rawInt 0, .none, .none] } }) := by
  refine .of_wp ?_
  rintro prog w A R ⟨hp, g, d, tk, os⟩ ⟨got, fin⟩
  have sub0 := sub_enumerate
  have tup : Heap.IsTuple (Shared.heap ⟨hp, g, d, tk, os⟩) l its := ⟨_, got, rfl, n, rfl⟩
  wp_walk using wpAny_loadPart' got
  apply wpAny_stack_any; intro st; apply wpAny_pure
  split
  · rename_i c _ _ _ _ _
    cases (c == Value.type "enumerate") <;> (wp_walk using wpAny_loadPart' got, wpAny_pyIter_tuple tup; exact ⟨_, rfl, fin⟩)
  · wp_walk using wpAny_loadPart' got, wpAny_pyIter_tuple tup
    exact ⟨_, rfl, fin⟩
end PySem
namespace K23
open PySem PySem.Spec PyProof.Rows L2
section
variable {prog : Program} {w : World} {A : Around} {E : Value → Shared → Prop} {s : Shared}
theorem call_enumT {l : Addr} {its : Array Value} {Q : Value → Shared → Prop} (tup : s.heap.IsTuple l its)
    (fin : ∀ h', IsEnum h' (s.heap.objs.size + 1) s.heap.objs.size 0 .none → h'.IsTupleIter s.heap.objs.size l 0 → (∀ b o, s.heap.get? b = some o → h'.get? b = some o) → Q (.ref (s.heap.objs.size + 1)) { s with heap := h' }) : wpAny (model prog w) A (call (.type "enumerate") [.ref l]) Q E s := by
  obtain ⟨⟨c0, di0, dt0, sl0⟩, got, isT, n0, seq0⟩ := tup
  simp only at isT seq0
  cases isT; cases seq0
  refine callType_new PySem.F.called_enumerate (by decide) (PySem.F.typeCall_enumerate_1 _) (PySem.F.newCall_enumerate_1 _) (fun ob => PySem.F.args_object_init_2 ob _) PySem.F.entry_enumerate_new (k23_meets_enumT l its n0 di0 sl0) ⟨got, ?_⟩
  have hz : (s.heap.push { cls := .type "tuple_iterator", data := .fields #[.ref l, .int 0 0] }).objs.size = s.heap.objs.size + 1 := Heap.size_push ..
  have at1 := Heap.get?_push_size (s.heap.push { cls := .type "tuple_iterator", data := .fields #[.ref l, .int 0 0] }) (o := { cls := .type "enumerate", data := .fields #[.none, .bool false, .ref s.heap.objs.size, rawInt 0, .none, .none] }) rfl
  rw [hz] at at1
  show _ ∧ _
  rw [hz]
  exact ⟨⟨_, at1, rfl⟩, fin _ at1 ⟨_, Heap.get?_push_of_some _ (Heap.get?_push_size _ rfl), rfl, rfl⟩ fun b o x => Heap.get?_push_of_some _ (Heap.get?_push_of_some _ x)⟩
end
/-- enumerate of a tuple -/
def IteT (K : PySem.W.Frag) (a : Addr) : It :=
  ⟨fun i H => ∃ (xs : List V) (x : V), SqT K H a xs ∧ xs[i]? = some x, fun i H v H' => ∃ t x, v = .ref t ∧ H t = none ∧ H' = upd H t (.tup [.int (i : Nat), x]) ∧ ∀ xs, SqT K H a xs → xs[i]? = some x, fun i H => ∃ xs : List V, SqT K H a xs ∧ xs.length = i⟩
theorem cls_ne {h : Heap} {a b : Addr} {u : Obj} {c : String} (h1 : h.get? a = some u) (h2 : ∃ o, h.get? b = some o ∧ o.cls = .type c) (n : u.cls ≠ .type c) : a ≠ b := by
  obtain ⟨o, h2, h3⟩ := h2
  intro e
  rw [e, h2] at h1
  cases h1
  exact n h3
theorem turn_enumT {P : Program} {w : World} {K : PySem.W.Frag} {elts : List Expr} {kk : Nat} {tpos : Pos} (a e it : Addr) :
    Turn P w K (.Tuple elts kk tpos) (IteT K a) [e, it] e (fun i h => (∃ old, IsEnum h e it ((i : Nat) : Int) old) ∧ h.IsTupleIter it a i ∧ e ≠ it) where
  mem := List.mem_cons_self
  obj := by
    rintro i h ⟨⟨old, he⟩, ⟨o, ho, _, hd⟩, _⟩ b hb
    rcases List.mem_cons.mp hb with z | z
    · rw [z]; exact ⟨_, he, fun v q => nomatch q⟩
    · rw [List.mem_singleton.mp z]
      exact ⟨o, ho, fun v q => by rw [hd] at q; cases q⟩
  keep := by
    rintro i h h' ⟨⟨old, he⟩, hi, hne⟩ k
    exact ⟨⟨old, k e List.mem_cons_self _ he⟩, hi.at fun o q => k it (by simp) o q, hne⟩
  item := by
    intro X hP hw hK hc i pins s σ H E I hf st ⟨xs, x, hq, hx⟩
    cases hP; cases hw; cases hK
    obtain ⟨⟨old, he⟩, hit, hne⟩ := st
    obtain ⟨its, rv, tup, hz⟩ := I.tuple hq
    obtain ⟨u, hu, ru⟩ := rv.get hx
    have lte : e < s.heap.objs.size := Heap.lt_size he
    have lti : it < s.heap.objs.size := by obtain ⟨_, q, _⟩ := hit; exact Heap.lt_size q
    have neT : e ≠ a := cls_ne (c := "tuple") he (by obtain ⟨o, q1, q2, _⟩ := tup; exact ⟨o, q1, q2⟩) (by intro z; injection z with z; exact absurd z (by decide))
    have neT2 : a ≠ it := by
      obtain ⟨o, q1, q2, _⟩ := hit
      obtain ⟨o', p1, p2, _⟩ := tup
      exact cls_ne p1 ⟨o, q1, q2⟩ (by rw [p2]; intro z; injection z with z; exact absurd z (by decide))
    have hi : i < its.toArray.size := by
      have := (List.getElem?_eq_some_iff.mp hu).1
      simpa using this
    refine wpAny_pyNext_enum_itemD (Draws.tuple (A := X.A.in1) (I.ok.hd hc) it a neT2 its.toArray) he ⟨hit, tup⟩ hi hne (by simp [hne, neT]) fun y h' tk hP ho hs' hT hsz hk => ?_
    have ey : y = u := by
      have hP : its.toArray[i]? = some y := hP
      rw [List.getElem?_toArray, hu] at hP
      exact (Option.some.inj hP).symm
    cases ey
    refine ⟨_, rfl, wpAny_letOwnedTupleGo_enum (s := { s with heap := h', toks := tk + 1 }) ho fun h'' he' sb => ?_⟩
    have at2 : h''.get? s.heap.objs.size = some { cls := .type "tuple", data := .seq #[.int i tk, u] } := (sb.2 _ (Nat.ne_of_gt lte)).trans hT
    have stay : ∀ b o, b ∉ [e, it] → s.heap.get? b = some o → h''.get? b = some o := fun b o hb q => by
      have n1 : b ≠ e := fun z => hb (by simp [z])
      exact (sb.2 b n1).trans (hk b o n1 (fun z => hb (by simp [z])) q)
    have I1 : Inv X pins σ (upd H s.heap.objs.size (.tup [.int (i : Nat), x])) { s with heap := h'', toks := tk + 1 } :=
      I.turnedNew (ch := [e, it]) stay hf (Nat.le_refl _) ⟨by show 2 ≤ sizeLine; decide, [.int i tk, u], .cons ⟨_, rfl⟩ (.cons ru .nil), ⟨_, at2, rfl, _, rfl⟩⟩
    have e1 : ((i : Nat) : Int) + 1 = ((i + 1 : Nat) : Int) := by omega
    rw [e1] at he'
    refine ⟨.ref s.heap.objs.size, _, I1, rfl, ⟨_, x, rfl, I.hok.fresh (Nat.le_refl _), rfl, fun ys hy => by rw [I.tuple_inj hy hq]; exact hx⟩, ⟨⟨u, he'⟩, hs'.1.at fun o q => (sb.2 it (Ne.symm hne)).trans q, hne⟩, fun b hb => ?_⟩
    have low : b < s.heap.objs.size := by
      rcases List.mem_cons.mp hb with z | z
      · exact z ▸ lte
      · exact (List.mem_singleton.mp z) ▸ lti
    rw [upd_ne (Nat.ne_of_lt low)]
    exact (hf b hb).1
  done := by
    intro X hP hw hK hc i pins s σ H E I hf st ⟨xs, hq, hx⟩
    cases hP; cases hw; cases hK
    obtain ⟨⟨old, he⟩, hit, hne⟩ := st
    obtain ⟨its, rv, tup, hz⟩ := I.tuple hq
    have neT2 : a ≠ it := by
      obtain ⟨o, q1, q2, _⟩ := hit
      obtain ⟨o', p1, p2, _⟩ := tup
      exact cls_ne p1 ⟨o, q1, q2⟩ (by rw [p2]; intro z; injection z with z; exact absurd z (by decide))
    have ei : i = its.toArray.size := by
      rw [← hx, rv.length, List.size_toArray]
    cases ei
    obtain ⟨f0, f1, f2, f3, f4, f5⟩ := hf it (by simp)
    refine wpAny_pyNext_enum_endD (Draws.tuple (A := X.A.in1) (I.ok.hd hc) it a neT2 its.toArray) he ⟨hit, tup⟩ fun h' ext => ⟨rfl, ?_⟩
    exact I.turned (t' := s.toks) (fun b o hb q => ext b o hb q) f0 f1 f3 f4 f5
  self := by
    rintro A i s Q E ⟨⟨old, he⟩, _⟩ h
    exact wpAny_pyIter_enum he h
def iEnumT (K : PySem.W.Frag) (ta : TA) : TI := fun σ H R => ta σ H fun vs H1 => ∃ a xs, vs = [.ref a] ∧ SqT K H1 a xs ∧ R (IteT K a) H1
theorem pi_enumT {X : Cx} (K : PySem.W.Frag) {e : Expr} {ta : TA} {p pos tpos : Pos} {elts : List Expr} {kk : Nat} (hm : X.mg "enumerate" = none) (ha : PA X [e] ta) (hK : X.K = K := by rfl) (hg : Gl X "enumerate" := by rfl) (hs : starEach [e] X.env = [(false, eval e X.env)] := by rfl) :
    PI X (.Tuple elts kk tpos) (.Call (.Name "enumerate" p) [e] [] pos) (iEnumT K ta) := by
  cases hK
  constructor
  intro pins s σ H R I h
  refine Call_ (ld_blt I hg hm boot_enumerate (callWith_type1 (thn (ha.run pos pins s σ H _ I h) ?_) hs rfl))
  rintro us s1 ⟨vs, H1, I1, r1, a, xs, rfl, hq, q⟩
  cases r1 with
  | cons r rr =>
    cases rr
    cases r
    obtain ⟨its, rv, tup, hz⟩ := I1.tuple hq
    refine call_enumT tup fun h' he hit hk => wpAny_pyIter_enum he ?_
    have I2 : Inv X pins σ H1 { s1 with heap := h' } := I1.kept (t' := s1.toks) hk
    refine ⟨s1.heap.objs.size + 1, [s1.heap.objs.size + 1, s1.heap.objs.size], _, _, H1, rfl, I2, turn_enumT a (s1.heap.objs.size + 1) s1.heap.objs.size, ⟨⟨.none, he⟩, hit, Nat.succ_ne_self _⟩, fun b hb => ?_, q⟩
    have hle : s1.heap.objs.size ≤ b := by
      rcases List.mem_cons.mp hb with z | z
      · rw [z]; exact Nat.le_succ _
      · rw [List.mem_singleton.mp z]; exact Nat.le_refl _
    exact I1.fpOk hle (I1.hok.fresh hle)
theorem walk_enumT {K : PySem.W.Frag} {a : Addr} {xs : List V} : Walk (IteT K a) xs.length (fun H => SqT K H a xs) (YPair (fun i => some (.int (i : Nat))) (fun i => xs[i]?)) where
  goes := fun i H hi h => ⟨xs, xs[i], h, List.getElem?_eq_getElem hi⟩
  stops := fun H h => ⟨xs, h, rfl⟩
  yields := fun i H x H' hi h ⟨t, y, h1, h2, h3, h4⟩ => ⟨t, _, y, h1, h2, h3, rfl, h4 xs h⟩
end K23
/-! S4: list.extend of a tuple. -/
namespace PySem
open Sem (wp)
open AutoSeq1 (wpAny_loadPart')
theorem k23_meets_extT (l : Addr) (its : Array Value) (n : Nat) (b : Addr) (jts : Array Value) (m : Nat) (di : Option Addr) (sl : Array (Option Value)) (short : ¬(!its.isEmpty && Builtin.List.listTooLong (its.size + jts.size)) = true) (z1 : its.size ≤ sizeLine) (z2 : its.size + jts.size ≤ sizeLine + 1) :
    Meets (Builtin.«list.extend» ⟨[.ref l, .ref b], []⟩) (fun _ R s => s.heap.get? l = some { cls := .type "list", dict := none, data := .seq its n, slots := #[] } ∧ s.heap.get? b = some { cls := .type "tuple", dict := di, data := .seq jts m, slots := sl } ∧ R (.ok (.ret Value.none)) { s with heap := s.heap.update l (Obj.mapSeq fun x => x ++ jts), toks := s.toks }) := by
  refine .of_wp ?_
  rintro prog w A R ⟨hp, g, d, tk, os⟩ ⟨at1, at2, fin⟩
  have f1 := AutoSeq1.idx_int
  have f2 := AutoSeq1.sub_tuple_tuple
  have f3 := AutoSeq1.sub_list_list
  have f4 := AutoSeq1.sub_tuple_list
  have f5 := AutoSeq1.sub_list_tuple
  have z3 : (its ++ jts).size ≤ sizeLine + 1 := by rw [Array.size_append]; exact z2
  wp_walk using (wpAny_updateSeq at1 rfl (hz := z1) (_hz' := z3)), wpAny_loadPart' at1, wpAny_loadPart' at2
  exact ⟨_, rfl, fin⟩
end PySem
namespace K23
open PySem PySem.Spec PyProof.Rows L2
/-- list.extend(t), t a tuple -/
def rExtendT (K : PySem.W.Frag) : V → List V → Hp → VK → Prop := fun x vs H Q => ∃ l b xs zs, x = .ref l ∧ vs = [.ref b] ∧ H l = some (.lst xs) ∧ SqT K H b zs ∧ xs.length + zs.length ≤ 1000 ∧ Q .non (upd H l (.lst (xs ++ zs)))
theorem mt_extendT (K : PySem.W.Frag) {X : Cx} (hc : X.calm = true := by rfl) (h : X.K = K := by rfl) : MtR X "list.extend" (rExtendT K) := by
  cases h
  rintro pins s σ H x vs v us Q I rx rv ⟨l, b, xs, zs, rfl, rfl, hH, hB, hz, q⟩
  cases rx
  obtain ⟨u, rfl, ru⟩ := rv.one
  cases ru
  obtain ⟨z, its, n, r, hl, e⟩ := I.lstM hH
  obtain ⟨jts, r2, ⟨⟨c2, di2, dt2, sl2⟩, got2, isT, m, seq2⟩, _⟩ := I.tuple hB
  simp only at isT seq2
  cases isT; cases seq2
  have l2 := r2.length
  have sum : its.toArray.size + jts.toArray.size ≤ 1000 := by rw [List.size_toArray, List.size_toArray]; omega
  have sum2 : its.toArray.size + jts.toArray.size ≤ sizeLine := by rw [sizeLine_eq]; omega
  have short : ¬ (!its.toArray.isEmpty && Builtin.List.listTooLong (its.toArray.size + jts.toArray.size)) = true := by
    rw [notLongL sum2, Bool.and_false]
    exact Bool.false_ne_true
  refine call_meets F.slot_list_extend ⟨_, e, rfl⟩ F.entry_list_extend (F.args_list_extend_2 _ _) (k23_meets_extT l its.toArray n b jts.toArray m di2 sl2 short (by omega) (by omega)) ⟨e, got2, ?_⟩
  refine ⟨.non, _, I.lset (its' := its ++ jts) hH e (by simp) (r.append r2) ?_, rfl, q⟩
  rw [List.length_append, sizeLine_eq]
  omega
end K23
/-! L3: the normal formula as a plain function. -/
namespace K23
open PySem PySem.Spec PyProof.Rows L2
def minS (ns : List Str) : Str := (sortN ns).headD Str.empty
def ordF (gs : List (Fm Str)) : List (Fm Str) := gs.mergeSort fun a b => leS (minS a.names) (minS b.names)
theorem ordF_perm (gs : List (Fm Str)) : (ordF gs).Perm gs := List.mergeSort_perm _ _
mutual
def normT : Fm Str → Nat → Fm Str
  | .kind s, m => if 1 < m then .many m (.kind s) else .kind s
  | .many n p, m => normT p (m * n)
  | .node b ps, m => if b then .node true (ordF ((normTL ps m).flatMap (kids true))) else if 1 < m then .many m (.node false (ordF ((normTL ps 1).flatMap (kids false)))) else .node false (ordF ((normTL ps 1).flatMap (kids false)))
def normTL : List (Fm Str) → Nat → List (Fm Str)
  | [], _ => []
  | p :: r, m => normT p m :: normTL r m
end
theorem normTL_eq (ps : List (Fm Str)) (m : Nat) : normTL ps m = ps.map fun p => normT p m := by
  induction ps with
  | nil => rfl
  | cons p r ih => rw [normTL, ih]; rfl
theorem normT_kind (s : Str) (m : Nat) : normT (.kind s) m = if 1 < m then .many m (.kind s) else .kind s := by rw [normT]
theorem normT_many (n : Nat) (p : Fm Str) (m : Nat) : normT (.many n p) m = normT p (m * n) := by rw [normT]
theorem normT_and (ps : List (Fm Str)) (m : Nat) : normT (.node true ps) m = .node true (ordF ((ps.map fun p => normT p m).flatMap (kids true))) := by rw [normT, if_pos rfl, normTL_eq]
theorem normT_or (ps : List (Fm Str)) (m : Nat) : normT (.node false ps) m = if 1 < m then .many m (.node false (ordF ((ps.map fun p => normT p 1).flatMap (kids false)))) else .node false (ordF ((ps.map fun p => normT p 1).flatMap (kids false))) := by rw [normT, if_neg (by decide), normTL_eq]
theorem nrms_map {B m : Nat} {F : Fm Str → Fm Str} : ∀ {ps : List (Fm Str)}, (∀ p ∈ ps, Nrm B m p (F p)) → Nrms B m ps (ps.map F)
  | [], _ => .nil
  | p :: r, h => .cons (h p List.mem_cons_self) (nrms_map fun q hq => h q (List.mem_cons_of_mem _ hq))
theorem normT_nrm {f : Fm Str} : ∀ {B m : Nat}, 0 < m → m ≤ B → Wf (B / m) f → Nrm B m f (normT f m) := by
  induction f using Fm.ind with
  | hk s =>
    intro B m hm hB wf
    rw [Wf.kind] at wf
    rw [normT_kind]
    by_cases h : 1 < m
    · rw [if_pos h]; exact nrm_many h hB (nrm_kind wf) rfl
    · have e : m = 1 := by omega
      subst e
      rw [if_neg h]
      exact nrm_kind (by rw [Nat.div_one] at wf; exact wf)
  | hm n p ih =>
    intro B m hm hB wf
    rw [Wf.many] at wf
    rw [normT_many]
    have h1 : 0 < m * n := Nat.mul_pos hm (by omega)
    have h2 : m * n ≤ B := by
      have := (Nat.le_div_iff_mul_le hm).mp wf.2.1
      rw [Nat.mul_comm]; exact this
    refine nrm_of_many (ih h1 h2 ?_)
    rw [← Nat.div_div_eq_div_mul]; exact wf.2.2
  | hn b ps ih =>
    intro B m hm hB wf
    rw [Wf.node] at wf
    cases b with
    | true =>
      rw [normT_and]
      exact nrm_and hm wf.1 (nrms_map fun p hp => ih p hp hm hB (wf.2 p hp)) (ordF_perm _)
    | false =>
      rw [normT_or]
      have hb : 1 ≤ B / m := (Nat.one_le_div_iff hm).mpr hB
      have key : Nrm (B / m) 1 (.node false ps) (.node false (ordF ((ps.map fun p => normT p 1).flatMap (kids false)))) :=
        nrm_or wf.1 (nrms_map fun p hp => ih p hp (by decide) hb (by rw [Nat.div_one]; exact wf.2 p hp)) (ordF_perm _)
      by_cases h : 1 < m
      · rw [if_pos h]; exact nrm_many h hB key rfl
      · have e : m = 1 := by omega
        subst e
        rw [if_neg h]
        rw [Nat.div_one] at key
        exact key
end K23
/-! S5: sorted of a list of tuples of texts. -/
namespace K23
open PySem PySem.Spec PyProof.Rows L2
open PySem.W (EachIs alike alikeAll AllAlike Sortable dataLe)
theorem alike_strs : ∀ xs ys : List Str, alikeAll (xs.map .str) (ys.map .str) = true
  | [], ys => by cases ys <;> simp [alikeAll]
  | x :: xs, [] => by simp [alikeAll]
  | x :: xs, y :: ys => by
    rw [List.map_cons, List.map_cons, alikeAll, alike_strs xs ys]
    simp [alike]
theorem depth_strs : ∀ xs : List Str, PyData.depthAll (xs.map .str) = 0
  | [] => by simp [PyData.depthAll]
  | x :: xs => by
    rw [List.map_cons, PyData.depthAll, depth_strs xs]
    simp [PyData.depth]
/-- sorted(xs), xs a list of tuples of texts: the same tuples in some order -/
def rSortedTS (K : PySem.W.Frag) : List V → Hp → VK → Prop := fun vs H Q => ∃ (a : Addr) (xs : List V) (ts : List (List Str)), vs = [V.ref a] ∧ SqL K H a xs ∧ DpAll K H xs (ts.map fun t => .tuple (t.map .str)) ∧ xs.length < 64 ∧ (∀ t ∈ ts, t ≠ []) ∧
  ∀ (ys : List V) (p : Addr), ys.Perm xs → H p = none → Q (.ref p) (upd H p (.lst ys))
section
variable {X : Cx} {pins : List (Addr × Obj)} {σ : L2.St} {H : Hp} {s : Shared}
theorem each_of (I : Inv X pins σ H s) : ∀ {xs : List V} {its : List Value} {ts : List (List Str)}, Vals xs its → DpAll X.K H xs (ts.map fun t => .tuple (t.map .str)) →
    EachIs (fun v (b : V × List Str) => RelV b.1 v) its (xs.zip ts) ∧ EachIs (fun v (b : V × List Str) => ∃ as, Reads s.heap v (.tuple (b.2.map .str)) as) its (xs.zip ts)
  | [], _, [], .nil, _ => ⟨.nil, .nil⟩
  | x :: xs, _, t :: ts, .cons r rs, h => by
    cases h with
    | cons h1 h2 =>
      obtain ⟨a, b⟩ := each_of I rs h2
      exact ⟨.cons r a, .cons (Dp.reads I _ _ _ h1 r) b⟩
theorem vals_of_each : ∀ {out : List Value} {bs : List (V × List Str)}, EachIs (fun v (b : V × List Str) => RelV b.1 v) out bs → Vals (bs.map (·.1)) out
  | _, _, .nil => .nil
  | _, _, .cons h t => .cons h (vals_of_each t)
end
theorem kc_sortedTS (K : PySem.W.Frag) {X : Cx} (hu : X.A.units + 64 < cLine) (h : X.K = K := by rfl) : CallR X (.builtin "sorted") (rSortedTS K) := by
  cases h
  rintro pins s σ H vs us Q I r ⟨a, xs, ts, rfl, hl, hd, few, ne, q⟩
  obtain ⟨its, rv, pl, hz⟩ := I.list hl
  rw [Vals.ref1 r]
  obtain ⟨e1, e2⟩ := each_of I rv hd
  have len : xs.length = ts.length := by
    have := dpa_len hd
    rwa [List.length_map] at this
  have fst : (xs.zip ts).map (·.1) = xs := List.map_fst_zip (by omega)
  have bl : (xs.zip ts).length = xs.length := by rw [List.length_zip]; omega
  refine PySem.W.sorted_data (enc := fun b : V × List Str => .tuple (b.2.map .str)) pl.isList e1 e2 (AllAlike.of fun b b' => ?_) (.inl fun d hd => ?_) (by rw [bl, sizeLine_eq]; omega) (fun b _ => ?_) fun out ol oe => ?_
  · rw [alike]
    exact alike_strs _ _
  · obtain ⟨b, hb, rfl⟩ := List.mem_map.mp hd
    have hb2 := (List.of_mem_zip (a := b.1) (b := b.2) hb).2
    cases hc : b.2 with
    | nil => exact absurd hc (ne _ hb2)
    | cons x r => exact ⟨.str x, r.map .str, rfl⟩
  · have : PyData.depth (.tuple (b.2.map .str)) ≤ 1 := by rw [PyData.depth, depth_strs]; omega
    omega
  · obtain ⟨c, hc⟩ := sortedAll_at s.heap its (List.toArray out)
    have pm : (((xs.zip ts).mergeSort (dataLe false fun b : V × List Str => .tuple (b.2.map .str))).map (·.1)).Perm xs := by
      have := (List.mergeSort_perm (xs.zip ts) (dataLe false fun b : V × List Str => .tuple (b.2.map .str))).map (·.1)
      rwa [fst] at this
    refine ⟨.ref _, upd H (s.heap.objs.size + 1) (.lst _), I.laid (t' := s.toks) (fun _ _ => sortedAll_old) (Nat.le_succ _) ⟨?_, out, c, vals_of_each oe, hc⟩, rfl, q _ _ pm (I.hok.fresh (Nat.le_succ _))⟩
    rw [pm.length_eq, sizeLine_eq]
    omega
end K23
set_option maxHeartbeats 4000000
/-! S6: sorted(xs, key=f), f a call that gives texts and may lay new things. -/
namespace K23
open PySem PySem.Spec PyProof.Rows L2
open PySem.W (EachIs alike alikeAll AllAlike Sortable dataLe KeyedOut KeepsBut SortsAt hideAll)
section
variable {X : Cx} {pins : List (Addr × Obj)} {σ : L2.St} {H : Hp} {s : Shared} {h' : Heap}
/-- an object of ours that was not known is known from now on -/
theorem inv_adopt {t' : Nat} {ch : List Addr} {T : Addr} {ob : HO} (I : Inv X pins σ H s) (k : ∀ b o, b ∉ ch → s.heap.get? b = some o → h'.get? b = some o) (hf : ∀ b ∈ ch, FpOk X pins H b) (hT : T ∈ ch) (new : ObjOk X.prog X.w (upd H T ob) h' T ob) : Inv X pins σ (upd H T ob) { s with heap := h', toks := t' } := by
  have hn : H T = none := (hf T hT).1
  have apart : ∀ b u, H b = some u → b ∉ ch := fun b u e z => by rw [(hf b z).1] at e; cases e
  have neT : ∀ {b u}, H b = some u → b ≠ T := fun {b u} e => ne_of_none e hn
  apply I.step (g' := s.gens) (d' := s.drawn) (ch := ch)
  · intro b hb
    obtain ⟨_, a2, _, a4, a5, a6⟩ := hf b hb
    exact ⟨a4, a2, a5, a6⟩
  · exact fun b o _ _ hc e _ => k b o hc e
  · exact fun b o _ _ hc e _ => ⟨o.slots, k b o hc e⟩
  · intro b o hc e n
    rw [upd_ne (fun z => hc (by rw [z]; exact hT))]
    exact n
  · exact fun b o hc e => ⟨o, k b o hc e⟩
  · exact fun b xs e => by rw [upd_ne (neT e)]; exact e
  · exact fun b o u e => by rw [upd_ne (neT e)]; exact e
  · exact fun b ps e => ⟨#[], by rw [upd_ne (neT e), e]; simp⟩
  · rintro m ⟨o, es, ep, ho, r⟩
    exact ⟨o, es, ep, k _ o (fun z => (hf _ z).2.1 rfl) ho, r⟩
  · intro b u e
    by_cases hb : b = T
    · cases hb
      rw [upd_same] at e
      cases e
      exact new
    · rw [upd_ne hb] at e
      apply (I.hok b u e).stay
      · rintro c v hc q
        refine k c v ?_ q
        rcases hc with z | z
        · rw [z]; exact apart b u e
        · exact apart c _ z
      · exact fun c q => by rw [upd_ne (neT q)]; exact q
      · exact fun c xs q => by rw [upd_ne (neT q)]; exact q
  · exact I.bare
theorem fp_at {H' : Hp} {b : Addr} (f : FpOk X pins H b) (n : H' b = none) : FpOk X pins H' b := ⟨n, f.2⟩
theorem fp_nfr {b : Addr} (I : Inv X pins σ H s) (f : FpOk X pins H b) : b ∉ frs X.stack := fun z => by
  rcases List.mem_cons.mp (I.stkSub _ z) with e | e
  · exact f.2.1 e
  · exact f.2.2.1 e
end
section
variable {X : Cx} {pins : List (Addr × Obj)} {σ : L2.St} {H : Hp} {s : Shared} {E : Value → Shared → Prop} {vs : List Value} {kz : List Str} {A : Around} {P : PySem.Fin → Shared → Prop}
/-- what the call of the key gives -/
def KeyTurn (X : Cx) (A : Around) (pins : List (Addr × Obj)) (σ : L2.St) (J : Hp → Prop) (fA : Addr) (fo : Obj) (vs : List Value) (kz : List Str) : Prop :=
  ∀ (i : Nat) (v : Value) (k : Str), vs[i]? = some v → kz[i]? = some k → ∀ (s : Shared) (H : Hp), Inv X pins σ H s → J H → s.heap.get? fA = some fo → H fA = none →
    wpAny (model X.prog X.w) A (call (.ref fA) [v]) (CE X.stack X.prog X.w H s fun y H' => y = .str k ∧ J H') (fun _ _ => False) s
theorem keyI_rest {J : Hp → Prop} {fA a kS : Addr} {fo : Obj} {e1 : Nat} (I : Inv X pins σ H s) (fk : FpOk X pins H kS) (fa : FpOk X pins H a) (hka : kS ≠ a) (nk : s.heap.get? kS = some (seqObj "list" #[] 0)) (na : s.heap.get? a = some (seqObj "list" #[] e1)) (nf : s.heap.get? fA = some fo) (hf : H fA = none) (ff : fA ∉ frs X.stack)
    (nkf : fA ≠ kS) (jH : J H) (hlen : kz.length = vs.length) (hZ : vs.length ≤ sizeLine) (hu : A.units < cLine) (turn : KeyTurn X A pins σ J fA fo vs kz)
    (fin : ∀ (H' : Hp) (s' : Shared) (h' : Heap) (tk c : Nat) (out : List Value), Inv X pins σ H' s' → J H' → H' a = none → H' kS = none → (∀ b o, b ∉ [a, kS] → s'.heap.get? b = some o → h'.get? b = some o) → h'.get? a = some (seqObj "list" out.toArray c) → KeyedOut false (kz.map .str) vs out → P (.done (.ret .none)) { s' with heap := h', toks := tk }) :
    wpAny (model X.prog X.w) A (ksk_rest a (.ref fA) false vs.toArray e1 (.ref kS)) P E s := by
  unfold ksk_rest
  apply wpAny_bind; apply wpAny_rule
  first
    | rw [List.forIn_toArray]
    | (rw [← Array.forIn_toList]; simp only [List.toList_toArray])
    | rw [← Array.forIn_toList]
  apply wpAny_bind
  refine ksk_fold (fun i s' => ∃ H' kA e, Inv X pins σ H' s' ∧ J H' ∧ H' a = none ∧ H' kS = none ∧ H' fA = none ∧ s'.heap.get? kS = some (seqObj "list" kA e) ∧ s'.heap.get? a = some (seqObj "list" #[] e1) ∧ s'.heap.get? fA = some fo ∧ EachIs (fun v k => ∃ t, v = .str k t) kA.toList (kz.take i)) vs 0 s
    ⟨H, #[], 0, I, jH, fa.1, fk.1, hf, nk, na, nf, by rw [List.take_zero]; exact .nil⟩ ?_ ?_
  · rintro j x s' hx ⟨H', kA, e, I1, j1, a1, k1, f1, nk1, na1, nf1, each⟩
    simp only [Nat.zero_add] at each ⊢
    have hj : j < vs.length := (List.getElem?_eq_some_iff.mp hx).1
    have hkj : kz[j]? = some kz[j] := List.getElem?_eq_getElem (by omega)
    have kl : kA.size ≤ vs.length := by
      have := each.length
      rw [Array.length_toList, List.length_take] at this
      omega
    apply wpAny_bind; apply wpAny_attempt
    refine wpAny_mono (turn j x kz[j] hx hkj s' H' I1 j1 nf1 f1) ?_ (fun _ _ hF => hF.elim)
    rintro u s2 ⟨y, H2, os, bare, un, hok, ry, ey, j2⟩
    cases ey
    obtain ⟨t, rfl⟩ := ry
    try dsimp only
    have I2 : Inv X pins σ H2 s2 := I1.call' (ch := []) os un hok bare (fun b z => absurd z (by simp))
    have stay : ∀ b o, s'.heap.get? b = some o → H' b = none → b ∉ frs X.stack → s2.heap.get? b = some o := fun b o q n nf => un.keep b o q n nf (by simp)
    have k2 : H2 kS = none := un.free kS _ nk1 k1 (by simp)
    have a2 : H2 a = none := un.free a _ na1 a1 (by simp)
    have f2 : H2 fA = none := un.free fA _ nf1 f1 (by simp)
    have nk2 := stay kS _ nk1 k1 (fp_nfr I1 (fp_at fk k1))
    have na2 := stay a _ na1 a1 (fp_nfr I1 (fp_at fa a1))
    have nf2 := stay fA _ nf1 f1 ff
    have sb := Heap.SameBut.update s2.heap kS (Obj.mapSeq (·.push (.str kz[j] t)))
    obtain ⟨c2, hc2⟩ : ∃ c2, (s2.heap.update kS (Obj.mapSeq (·.push (.str kz[j] t)))).get? kS = some (seqObj "list" (kA.push (.str kz[j] t)) c2) := ⟨_, get?_update_seq nk2 (·.push (.str kz[j] t))⟩
    apply wpAny_bind
    refine listUpdate_at nk2 rfl ?_ (Nat.le_trans kl hZ) (Nat.le_trans (Nat.le_of_eq (Array.size_push ..)) (Nat.succ_le_succ (Nat.le_trans kl hZ)))
    obtain ⟨g0, g1, g2, g3, g4, g5⟩ := fp_at fk k2
    refine wpAny_pure ⟨rfl, H2, kA.push (.str kz[j] t), c2, I2.turned (t' := s2.toks) (it := kS) (fun b o hb q => (sb.2 b hb).trans q) g0 g1 g3 g4 g5, j2, a2, k2, f2, hc2, (sb.2 a hka.symm).trans na2, (sb.2 fA nkf).trans nf2, ?_⟩
    rw [show (kA.push (.str kz[j] t)).toList = kA.toList ++ [.str kz[j] t] by simp, show kz.take (j + 1) = kz.take j ++ [kz[j]] by rw [List.take_add_one, hkj]; rfl]
    exact PySem.W.each_snoc (R := fun (v : Value) (k : Str) => ∃ t, v = .str k t) ⟨t, rfl⟩ each
  · rintro s' ⟨H', kA, e, I1, j1, a1, k1, f1, nk1, na1, nf1, each⟩
    rw [List.take_of_length_le (by omega)] at each
    have ksz : kA.size = vs.length := by
      have := each.length
      rw [Array.length_toList] at this
      omega
    have reads : EachIs (fun v k => ∃ as, Reads s'.heap v k as) kA.toList (kz.map .str) := by
      refine PySem.W.each_map (R := fun v k => ∃ as, Reads s'.heap v k as) .str (each.mono ?_)
      rintro v k ⟨t, rfl⟩
      exact ⟨[], .str k t⟩
    have hal : AllAlike (kz.map .str) := AllAlike.of fun b b' => by simp [alike]
    have hsk : Sortable (kz.map .str) := Sortable.others (enc := PyData.str) fun b => ⟨(fun z => by cases z), (fun xs z => by cases z)⟩
    try dsimp only
    apply wpAny_bind
    refine listItems_at nk1 rfl ?_
    have hid : ∀ b o, b ≠ kS → s'.heap.get? b = some o → (hideAll s'.heap [kS]).get? b = some o := fun b o hb q => PySem.W.hideAll_get [kS] q (by simpa using hb)
    refine PySem.W.keyH_end (κ := PySem.W.dataKind s'.heap (kz.map .str)) (h₁ := hideAll s'.heap [kS]) (fun b o _ q => PySem.W.of_hideAll [kS] q) (PySem.W.hideAll_none [kS] (by simp)) nk1 na1 hka (SortsAt.data (s := s') reads hal hsk fun d hd => ?_) ksz hZ fun h' tk c kp at2 => ?_
    · obtain ⟨k, _, rfl⟩ := List.mem_map.mp hd
      rw [PyData.depth]
      exact hu
    · refine fin H' s' h' tk c _ I1 j1 a1 k1 (fun b o hb q => ?_) at2 ⟨s'.heap, kA.toList, hal, rfl, reads⟩
      rw [List.mem_cons, List.mem_singleton, not_or] at hb
      exact kp b o hb.1 (hid b o hb.2 q)
theorem two_of {β : Type} : ∀ {bs : List (V × β)} {vs : List Value}, Vals (bs.map (·.1)) vs → EachIs (fun (v : Value) (b : V × β) => RelV b.1 v) vs bs
  | [], _, .nil => .nil
  | _ :: _, _, .cons r rs => .cons r (two_of rs)
theorem vals_two {β : Type} : ∀ {bs : List (V × β)} {vs : List Value}, EachIs (fun (v : Value) (b : V × β) => RelV b.1 v) vs bs → Vals (bs.map (·.1)) vs
  | _, _, .nil => .nil
  | _, _, .cons r rs => .cons r (vals_two rs)
theorem copy_size (h : Heap) (vs : List Value) : (PySem.W.copyHeap h vs).objs.size = h.objs.size + 2 := by
  unfold PySem.W.copyHeap
  rw [size_push', Heap.size_update, size_push']
theorem keyI_sorted {β : Type} {J : Hp → Prop} {l fA : Addr} {fo : Obj} {Q : VK} {bs : List (V × β)} (key : β → Str) (I : Inv X pins σ H s) (hl : s.heap.IsList l vs.toArray) (rv : Vals (bs.map (·.1)) vs) (nf : s.heap.get? fA = some fo) (hf : H fA = none) (ff : fA ∉ frs X.stack) (jH : J H) (few : bs.length ≤ 1000) (hu : X.A.in1.in1.units < cLine)
    (turn : KeyTurn X X.A.in1.in1 pins σ J fA fo vs (bs.map fun b => key b.2))
    (fin : ∀ (H' : Hp) (p : Addr), J H' → H p = none → H' p = none → Q (.ref p) (upd H' p (.lst ((bs.mergeSort (dataLe false fun b : V × β => .str (key b.2))).map (·.1))))) :
    wpAny (model X.prog X.w) X.A (call (.builtin "sorted") [.ref l] [(Str.ofString "key", .ref fA)]) (EP X pins σ Q) X.xe s := by
  have lv : vs.length = bs.length := by
    have := rv.length
    rw [List.length_map] at this
    exact this.symm
  have hZ : vs.length ≤ sizeLine := by rw [lv, sizeLine_eq]; omega
  refine PySem.W.sorted_of_sort hl hZ (ksk_s1 _ _) (fun x => ksk_l1 _ _) fun E' => ?_
  rw [ksk_t1]
  have sz0 : s.heap.objs.size < s.heap.objs.size + 1 := Nat.lt_succ_self _
  have ho := PySem.W.copyHeap_at s.heap vs
  obtain ⟨e1, ho1⟩ : ∃ e1, ((PySem.W.copyHeap s.heap vs).update (s.heap.objs.size + 1) (Obj.mapSeq fun _ => (#[] : Array Value))).get? (s.heap.objs.size + 1) = some (seqObj "list" #[] e1) := ⟨_, get?_update_seq ho fun _ => #[]⟩
  unfold ksk_tree
  apply wpAny_bind; refine listItems_at ho rfl ?_
  apply wpAny_bind; refine listUpdate_at ho rfl ?_ (by rw [List.size_toArray]; exact hZ) (Nat.zero_le _)
  apply wpAny_bind; refine seqEpoch_at ho1 rfl ?_
  apply wpAny_bind; refine wpAny_newTuple ?_ (by show vs.length ≤ _; exact hZ)
  apply wpAny_bind; refine wpAny_newList ?_ (Nat.zero_le _)
  apply wpAny_holding
  have kz : (((PySem.W.copyHeap s.heap vs).update (s.heap.objs.size + 1) (Obj.mapSeq fun _ => (#[] : Array Value))).push (seqObj "tuple" vs.toArray 0)).objs.size = s.heap.objs.size + 3 := by rw [size_push', Heap.size_update, copy_size]
  have up : ∀ b o, s.heap.get? b = some o → ((((PySem.W.copyHeap s.heap vs).update (s.heap.objs.size + 1) (Obj.mapSeq fun _ => (#[] : Array Value))).push (seqObj "tuple" vs.toArray 0)).push (seqObj "list" #[] 0)).get? b = some o := fun b o q => by
    refine Heap.get?_push_of_some _ (Heap.get?_push_of_some _ ?_)
    refine ((Heap.SameBut.update (PySem.W.copyHeap s.heap vs) (s.heap.objs.size + 1) _).2 b ?_).trans (PySem.W.copyHeap_old q)
    exact Nat.ne_of_lt (Nat.lt_trans (Heap.lt_size q) sz0)
  have I1 : Inv X pins σ H { s with heap := (((PySem.W.copyHeap s.heap vs).update (s.heap.objs.size + 1) (Obj.mapSeq fun _ => (#[] : Array Value))).push (seqObj "tuple" vs.toArray 0)).push (seqObj "list" #[] 0) } := I.kept (t' := s.toks) up
  have hp : H (s.heap.objs.size + 1) = none := I.hok.fresh (Nat.le_succ _)
  have fa : FpOk X pins H (s.heap.objs.size + 1) := I.fpOk (Nat.le_succ _) hp
  have fk : FpOk X pins H (s.heap.objs.size + 3) := I.fpOk (Nat.le_add_right _ 3) (I.hok.fresh (Nat.le_add_right _ 3))
  have lf : fA < s.heap.objs.size := Heap.lt_size nf
  rw [kz]
  have nk := Heap.get?_push_size (((PySem.W.copyHeap s.heap vs).update (s.heap.objs.size + 1) (Obj.mapSeq fun _ => (#[] : Array Value))).push (seqObj "tuple" vs.toArray 0)) (o := seqObj "list" #[] 0) rfl
  rw [kz] at nk
  refine keyI_rest (J := J) (fo := fo) I1 fk fa (fun z => absurd (Nat.add_left_cancel z) (by decide)) nk (Heap.get?_push_of_some _ (Heap.get?_push_of_some _ ho1)) (up _ _ nf) hf ff (Nat.ne_of_lt (Nat.lt_of_lt_of_le lf (Nat.le_add_right _ 3))) jH (by rw [List.length_map]; exact lv.symm) hZ hu turn ?_
  rintro H' s' h' tk c out J1 j1 a1 k1 keep at2 keyed
  rw [List.map_map] at keyed
  have e3 := PySem.W.keyedOut_each (fun b : V × β => .str (key b.2)) keyed (two_of rv)
  have all : ∀ b ∈ [s.heap.objs.size + 1, s.heap.objs.size + 3], FpOk X pins H' b := fun b hb => by
    rcases List.mem_cons.mp hb with z | z
    · rw [z]; exact fp_at fa a1
    · rw [List.mem_singleton.mp z]; exact fp_at fk k1
  refine ⟨rfl, .ref (s.heap.objs.size + 1), _, inv_adopt (t' := tk) (ob := .lst ((bs.mergeSort (dataLe false fun b : V × β => .str (key b.2))).map (·.1))) J1 keep all List.mem_cons_self ⟨?_, out, c, vals_two e3, at2⟩, rfl, fin H' _ j1 hp a1⟩
  rw [List.length_map, List.length_mergeSort, sizeLine_eq]
  omega
end
end K23
set_option maxHeartbeats 4000000
/-! S7: min of texts; the key's lambda; sorted(found, key=lambda part: min(names_in(part))). -/
namespace K23
open PySem PySem.Spec PyProof.Rows L2
open PySem.W (AlikeAll minD dataLt dataLe alike alikeAll)
theorem lt_strs (x y : Str) : dataLt (.str x) (.str y) = !leS y x := by
  have h := congrFun (congrFun (PySem.W.dataLe_str (fun s : Str => s)) y) x
  rw [PySem.W.dataLe_eq] at h
  dsimp only [cond] at h
  unfold leS
  rw [← h, Bool.not_not]
theorem min_strs (x : Str) (xs : List Str) : ∃ m, minD (.str x) (xs.map .str) = .str m ∧ m ∈ x :: xs ∧ ∀ y ∈ x :: xs, leS m y = true := by
  induction xs generalizing x with
  | nil => exact ⟨x, rfl, List.mem_cons_self, fun y hy => by rw [List.mem_singleton.mp hy]; have := leS_total x x; rwa [Bool.or_self] at this⟩
  | cons z r ih =>
    have refl : ∀ a : Str, leS a a = true := fun a => by have := leS_total a a; rwa [Bool.or_self] at this
    unfold minD
    rw [List.map_cons, List.foldl_cons, lt_strs]
    cases h : leS x z with
    | true =>
      obtain ⟨m, e, hm, all⟩ := ih x
      refine ⟨m, ?_, ?_, ?_⟩
      · exact e
      · rcases List.mem_cons.mp hm with q | q
        · exact q ▸ List.mem_cons_self
        · exact List.mem_cons_of_mem _ (List.mem_cons_of_mem _ q)
      · intro y hy
        rcases List.mem_cons.mp hy with q | q
        · rw [q]; exact all x List.mem_cons_self
        · rcases List.mem_cons.mp q with q | q
          · rw [q]; exact leS_trans _ _ _ (all x List.mem_cons_self) h
          · exact all y (List.mem_cons_of_mem _ q)
    | false =>
      obtain ⟨m, e, hm, all⟩ := ih z
      have zx : leS z x = true := by have := leS_total x z; rwa [h, Bool.false_or] at this
      refine ⟨m, ?_, ?_, ?_⟩
      · exact e
      · exact List.mem_cons_of_mem _ hm
      · intro y hy
        rcases List.mem_cons.mp hy with q | q
        · rw [q]; exact leS_trans _ _ _ (all z List.mem_cons_self) zx
        · exact all y q
theorem minS_is {ns : List Str} {m : Str} (hm : m ∈ ns) (all : ∀ y ∈ ns, leS m y = true) : minS ns = m := by
  unfold minS
  have p := sortN_perm ns
  have so := sortN_sorted ns
  cases h : sortN ns with
  | nil => rw [h] at p; rw [p.nil_eq.symm] at hm; cases hm
  | cons y r =>
    rw [h] at so p
    have h1 : leS m y = true := all y (p.mem_iff.mp List.mem_cons_self)
    have h2 : leS y m = true := by
      rcases List.mem_cons.mp (p.mem_iff.mpr hm) with q | q
      · rw [q]; have := leS_total y y; rwa [Bool.or_self] at this
      · exact (List.pairwise_cons.mp so).1 m q
    exact (leS_antisymm h1 h2).symm
theorem alike_allS (ns : List Str) : AlikeAll (ns.map .str) := by
  refine ⟨fun x hx y hy => ?_, fun x hx => ?_⟩
  · obtain ⟨a, _, rfl⟩ := List.mem_map.mp hx
    obtain ⟨b, _, rfl⟩ := List.mem_map.mp hy
    simp [alike]
  · obtain ⟨a, _, rfl⟩ := List.mem_map.mp hx
    exact fun z => by cases z
/-- min of a list of texts -/
def rMinS (K : PySem.W.Frag) : List V → Hp → VK → Prop := fun vs H Q => ∃ (a : Addr) (ns : List Str), vs = [V.ref a] ∧ SqL K H a (ns.map V.str) ∧ ns ≠ [] ∧ Q (.str (minS ns)) H
theorem kc_minS (K : PySem.W.Frag) {X : Cx} (hu : X.A.units + 64 < cLine) (hc : X.calm = true := by rfl) (h : X.K = K := by rfl) : CallR X (.builtin "min") (rMinS K) := by
  cases h
  rintro pins s σ H vs us Q I r ⟨a, ns, rfl, hl, ne, q⟩
  obtain ⟨its, rv, pl, hz⟩ := I.list hl
  rw [Vals.ref1 r]
  cases ns with
  | nil => exact absurd rfl ne
  | cons x xs =>
    obtain ⟨as, ra⟩ := Dp.readsAll I ((x :: xs).map .str) _ _ (dpa_of_strs (x :: xs)) rv
    obtain ⟨m, e, hm, all⟩ := min_strs x xs
    have dz : ∀ l : List Str, PyData.depthAll (l.map .str) = 0 := fun l => by
      induction l with
      | nil => simp [PyData.depthAll]
      | cons y l ih => rw [List.map_cons, PyData.depthAll, ih]; simp [PyData.depth]
    refine PySem.W.min_list_data (x := .str x) (xs := xs.map .str) (I.ok.hd hc) pl.isList (by simpa using ra) (alike_allS (x :: xs)) (by have := dz (x :: xs); rw [List.map_cons] at this; rw [this]; omega) ?_
    rintro i v h' tk bs hv rd kp
    rw [e] at rd
    cases rd with
    | str _ t =>
      rw [minS_is hm all] at q
      exact ⟨.str m, H, I.kept kp, ⟨t, rfl⟩, q⟩
theorem clo_none (cells : List (Str × Addr)) : ∀ (ns : List (Str × NameKind)) (acc : List (Str × Addr)), (∀ y ∈ ns, y.2 ≠ .free) → cloFrom cells ns acc = acc
  | [], acc, _ => rfl
  | (n, k) :: r, acc, h => by
    have hk : (k == NameKind.free) = false := by
      have := h (n, k) List.mem_cons_self
      cases k <;> first | rfl | exact absurd rfl this
    unfold cloFrom
    rw [hk]
    exact clo_none cells r acc fun y hy => h y (List.mem_cons_of_mem _ hy)
/-- a lambda of one parameter is called -/
theorem run_lam1 {P : Program} {w : World} {K : PySem.W.Frag} {mg : Str → Option Value} {base : Heap} {f c' : Addr} {qual x : Str} {params : Arguments} {body : Expr} {scope : Scope} {pm ctv u : Value} {y : V} {A : Around} {outer : List Env} {s : Shared} {H : Hp} {Q : VK} {k : Nat} (S : FnScope [x] [x] scope) (hr : Room (k + 1) A)
    (e0 : Env0 P w K mg base A outer s H) (of1 : s.heap.get? f = some (PySem.W.kla_obj "<lambda>" qual params body scope [] pm c' ctv)) (hco : H c' = some (LamX.CodeO c' qual)) (hbind : bindArgs (PySem.W.kla_fn "<lambda>" qual params body scope [] pm (.ref c') ctv) ⟨[u], []⟩ = pure [(x, u)]) (ry : RelV y u)
    (hbody : Room k (A.deeper (envOfC qual scope s.heap.objs.size f (.ref c'))) → ∃ t, PE (cxOf CX0 P w K mg base [x] qual scope f (.ref c') A outer s H E0) body t ∧ t (L2.start [x] [y]) H Q) :
    codeAny (model P w) A (.call (.ref f) ⟨[u], []⟩) (CR CX0 outer P w H s Q E0) s := by
  obtain ⟨⟨oc, vs, t0, hoc, hdc, hvc⟩, _, _⟩ := e0.hok c' _ hco
  have lim : s.heap.NoLimit := e0.mod.nolimit.keeps fun b o e => (e0.bs b o e).1
  have hkind : ∀ y ∈ [(x, u)], scope.names.lookup y.1 = some .local ∨ (scope.names.lookup y.1 = some .cell ∧ ((cellsFrom (s.heap.objs.size + 1) scope.names []).lookup y.1).isSome = true) := by
    rintro ⟨n, v⟩ hy
    have e : n = x := by
      have := List.mem_singleton.mp hy
      injection this
    subst e
    rcases S.par n List.mem_cons_self with q | q
    · exact .inl q
    · exact .inr ⟨q, PySem.W.cellsFrom_some _ _ _ (.inl q)⟩
  refine PySem.W.kla_callFunE hr.depth of1 rfl S.co S.gen rfl ⟨c', oc, vs, t0, rfl, hoc, hdc, hvc⟩ ?_
  rw [hbind]
  apply wpAny_pure
  refine wpAny_newFunctionEnv_cells S.kind hkind fun env he s1 ic => ?_
  cases he
  refine ⟨lim.keeps ic.toInCall.keep, ?_⟩
  obtain ⟨t, ht, hq⟩ := hbody (hr.deeper _)
  have J : Inv (cxOf CX0 P w K mg base [x] qual scope f (.ref c') A outer s H E0) [] (L2.start [x] [y]) H s1 := inv_start S hr.hd e0 (us := [u]) rfl (.cons ry .nil) ic
  refine PySem.W.kla_codeExpr (wpAny_mono (ht.run [] s1 _ H Q J hq) ?_ fun e s' h => h)
  rintro v s' ⟨y', H', J', rv, q⟩
  exact ⟨y', H', J'.os, J'.bare, J'.base, J'.hok, rv, q⟩
/-! ### sorted(found, key=lambda part: min(names_in(part))) -/
def tSortKey (T : Tl) (K : PySem.W.Frag) (to : TE) : TE := fun σ H Q => to σ H fun x H1 => ∃ (a : Addr) (xs : List V) (gs : List (Fm Str)), x = .ref a ∧ SqL K H1 a xs ∧ DpAll K H1 xs (gs.map enc) ∧ (∀ g ∈ gs, FmOk g ∧ depth g < 24) ∧ gs.length ≤ 1000 ∧ LamX.Tabs T H1 ∧
  ∀ H' ys p, Fr H1 p → Ex T H1 H' → H' p = some (.lst ys) → DpAll K H' ys ((ordF gs).map enc) → Q (.ref p) H'
def keyParams (p2 : Pos) : Arguments := { posonlyargs := [], args := [{ arg := "part", annotation := none, pos := p2 }], vararg := none, kwonlyargs := [], kw_defaults := [], kwarg := none, defaults := [] }
def keyScope : Scope := { kind := .function, names := [("part", .local), ("min", .globalImplicit), ("names_in", .globalImplicit)], isGenerator := false, isCoroutine := false, more := [] }
theorem sc_key : FnScope ["part"] ["part"] keyScope where
  kind := rfl
  co := rfl
  gen := rfl
  nd := by simp
  pre := rfl
  par := fun x hx => by rw [List.mem_singleton.mp hx]; exact .inl (by kernel_rfl)
  nofree := by decide
end K23
set_option maxHeartbeats 4000000
/-! S8: sorted(found, key=lambda part: min(names_in(part))). -/
namespace K23
open PySem PySem.Spec PyProof.Rows L2
open PySem.W (dataLe)
theorem env0_in1 {P : Program} {w : World} {K : PySem.W.Frag} {mg : Str → Option Value} {base : Heap} {A : Around} {outer : List Env} {s : Shared} {H : Hp} (e : Env0 P w K mg base A outer s H) : Env0 P w K mg base A.in1 outer s H :=
  ⟨(by exact e.frames), e.mod, e.bs, e.bsz, e.funs, e.frf, e.hok, e.bare⟩
theorem ord_zip {xs : List V} {gs : List (Fm Str)} (h : xs.length = gs.length) :
    (((xs.zip gs).mergeSort (dataLe false fun b : V × Fm Str => .str (minS b.2.names))).map (·.2)) = ordF gs := by
  have e : (dataLe false fun b : V × Fm Str => .str (minS b.2.names)) = fun a b => leS (minS a.2.names) (minS b.2.names) := by
    rw [PySem.W.dataLe_str]
    rfl
  rw [e, List.map_mergeSort (s := fun a b : Fm Str => leS (minS a.names) (minS b.names)) (fun a _ b _ => rfl), List.map_snd_zip (by omega)]
  rfl
theorem dpa_pairs {K : PySem.W.Frag} {H : Hp} : ∀ {l : List (V × Fm Str)}, (∀ b ∈ l, Dp K H b.1 (enc b.2)) → DpAll K H (l.map (·.1)) ((l.map (·.2)).map enc)
  | [], _ => .nil
  | b :: l, h => .cons (h b List.mem_cons_self) (dpa_pairs fun c hc => h c (List.mem_cons_of_mem _ hc))
theorem dp_zip {K : PySem.W.Frag} {H : Hp} : ∀ {xs : List V} {gs : List (Fm Str)}, DpAll K H xs (gs.map enc) → ∀ b ∈ xs.zip gs, Dp K H b.1 (enc b.2)
  | [], _, _, b, hb => by cases hb
  | _ :: _, [], _, b, hb => by cases hb
  | x :: xs, g :: gs, h, b, hb => by
    cases h with
    | cons h1 h2 =>
      rcases List.mem_cons.mp hb with z | z
      · rw [z]; exact h1
      · exact dp_zip h2 b z
theorem pe_sortkey {X : Cx} (T : Tl) (K : PySem.W.Frag) {c P f : Addr} {j : Nat} {fd : FuncData} {e : Expr} {to : TE} {p1 p2 p3 p4 p5 p6 p7 p8 p9 p10 : Pos} (G : FnOk X.prog X.w X.K X.mg X.base CX0 24 f fd ["formula"] (spNames T K 24)) (hr : Room j X.A) (hj : 27 ≤ j)
    (gN : X.mg "names_in" = some (.ref f)) (kN : PySem.W.keepIn X.K (.ref f) = true) (bN : Binds X.K fd ["formula"] []) (zs : X.mg "sorted" = none) (zm : X.mg "min" = none) (TB : LamX.TabB X.base X.mg c P) (hcode : X.env.code = .ref c)
    (hmT : (P, X.env.qual ++ "<lambda>") ∈ T) (hu : ∀ p ∈ T, p.1 = P → p.2 = X.env.qual ++ "<lambda>") (ho : PE X e to) (hc : X.calm = true := by rfl) (hK : X.K = K := by rfl) (hg : Gl X "sorted" := by rfl)
    (he : starEach [e] X.env = (false, eval e X.env) :: starEach [] X.env := by rfl) :
    PE X (.Call (.Name "sorted" p1) [e] [{ arg := some "key", value := (.Lambda { posonlyargs := [], args := [{ arg := "part", annotation := none, pos := p2 }], vararg := none, kwonlyargs := [], kw_defaults := [], kwarg := none, defaults := [] } (.Call (.Name "min" p3) [.Call (.Name "names_in" p4) [.Name "part" p5] [] p6] [] p7) { kind := .function, names := [("part", .local), ("min", .globalImplicit), ("names_in", .globalImplicit)], isGenerator := false, isCoroutine := false, more := [] } p8), pos := p9 }] p10) (tSortKey T K to) := by
  cases hK
  constructor
  intro pins s σ H Q I h
  refine wpAny_Call_Name_kw (ld_blt I hg zs boot_sorted ?_ (by decide) (by decide))
  let R : V → Hp → Prop := fun x H1 => ∃ (a : Addr) (xs : List V) (gs : List (Fm Str)), x = .ref a ∧ SqL X.K H1 a xs ∧ DpAll X.K H1 xs (gs.map enc) ∧ (∀ g ∈ gs, FmOk g ∧ depth g < 24) ∧ gs.length ≤ 1000 ∧ LamX.Tabs T H1 ∧
    ∀ H' ys p, Fr H1 p → Ex T H1 H' → H' p = some (.lst ys) → DpAll X.K H' ys ((ordF gs).map enc) → Q (.ref p) H'
  have h0 : tCons to tNil σ H (fun vs H1 => match vs with | [x] => R x H1 | _ => False) := h
  refine callWith_kw (thn ((pa_cons ho pa_nil he).run p10 pins s σ H _ I h0) ?_) (by rw [he]; rfl) (by rw [he]; rfl) rfl rfl
  rintro us s1 ⟨vs, H1, I1, rv, q1⟩
  match vs, rv, q1 with
  | [x], rv, q1 =>
    obtain ⟨l, xs, gs, rfl, hl, hd, ok, few, tabs, q⟩ := q1
    obtain rfl := Vals.ref1 rv
    have len : xs.length = gs.length := by
      have := dpa_len hd
      rwa [List.length_map] at this
    refine wpAny_evalAll_cons (wpAny_bind ?_)
    refine LamX.lam_make2 I1 TB hcode hmT hu tabs rfl (fun y hy e => ?_) ?_
    · exact absurd e (sc_key.nofree y hy)
    intro fA c' pm ctv H2 s2 I2 eN T2 of hfn hfr hco
    refine wpAny_bind (wpAny_standAt (wpAny_pure (wpAny_evalAll_nil ?_)))
    have of' : s2.heap.get? fA = some (PySem.W.kla_obj "<lambda>" (X.env.qual ++ "<lambda>") (keyParams p2) (.Call (.Name "min" p3) [.Call (.Name "names_in" p4) [.Name "part" p5] [] p6] [] p7) keyScope [] pm c' ctv) := of
    have e12 : Ex T H1 H2 := ⟨eN, fun _ => T2⟩
    obtain ⟨its, rvs, pl, hz⟩ := I2.list (e12.sl hl)
    have fst : (xs.zip gs).map (·.1) = xs := List.map_fst_zip (by omega)
    have bl : (xs.zip gs).length = xs.length := by rw [List.length_zip]; omega
    have hd2 : ∀ b ∈ xs.zip gs, Dp X.K H2 b.1 (enc b.2) := dp_zip (e12.dpa hd)
    have mem2 : ∀ b ∈ xs.zip gs, FmOk b.2 ∧ depth b.2 < 24 := fun b hb => ok b.2 (List.of_mem_zip (a := b.1) (b := b.2) hb).2
    have hr2 : Room (24 + 1) X.A.in1.in1 := ((hr.mono hj).in1).in1
    show wpAny _ _ (call (.builtin "sorted") [.ref l] [(Str.ofString "key", .ref fA)]) _ _ s2
    refine keyI_sorted (β := Fm Str) (J := fun H' => Ex T H2 H') (bs := xs.zip gs) (fun g => minS g.names) I2 pl.isList (by rw [fst]; exact rvs) of' hfn hfr (Ex.refl _) (by omega) hr2.units0 ?_ ?_
    · intro i v k hv hk s3 H3 I3 e3 of3 hf3
      rw [List.getElem?_map] at hk
      cases hb : (xs.zip gs)[i]? with
      | none => rw [hb] at hk; cases hk
      | some b =>
        rw [hb] at hk
        obtain rfl := Option.some.inj hk
        have hbm := List.mem_of_getElem? hb
        have ry : RelV b.1 v := by
          have hx : xs[i]? = some b.1 := by rw [← fst, List.getElem?_map, hb]; rfl
          obtain ⟨u, hu1, hu2⟩ := rvs.get hx
          rw [hv] at hu1
          cases hu1
          exact hu2
        refine wpAny_call (codeAny_mono (run_lam1 (Q := fun y H' => y = .str (minS b.2.names) ∧ Ex T H2 H') (y := b.1) sc_key hr2 (env0_in1 (env0_in1 I3.env0)) of3 (e3.keep _ _ hco LamX.codeO_ne) rfl ry fun hr3 => ?_) ?_)
        · refine ⟨_, pe_callB (kc_minS X.K hr3.units) (by rfl) zm boot_min (pa_cons (pe_f G hr3 (by omega) gN kN bN (pa_cons (pv 0) pa_nil)) pa_nil), ?_⟩
          obtain ⟨o1, o2⟩ := mem2 b hbm
          refine ⟨_, rfl, b.1, b.2, rfl, e3.dp (hd2 b hbm), o1, o2, fun H5 p5 f5 e5 at5 => ?_⟩
          exact ⟨p5, b.2.names, rfl, SqL.of at5, (fun z => by have := names_pos o1.wf; rw [z] at this; cases this), rfl, e3.trans e5⟩
        · rintro (e | (_ | _ | _ | u)) s4 hq
          · exact hq.elim
          iterate 3 exact hq.elim
          exact hq
    · intro H' p j hp hp'
      refine q _ _ p (Fr.new e12 hp) (e12.trans (j.trans (Ex.new hp'))) upd_same ?_
      rw [← ord_zip len]
      refine (dpa_pairs fun b hb => ?_)
      exact (j.trans (Ex.new hp')).dp (hd2 b ((List.mergeSort_perm _ _).mem_iff.mp hb))
end K23
/-! RS: the rules of S1 to S8 at one name. -/
/-! W7: is_integer, is_number, is_name, is_name_lot. -/
namespace K23
open PySem PySem.Spec PyProof.Rows L2
instance (s : Str) : Decidable (IsNm s) := by unfold IsNm; infer_instance
/-- what may be asked about, and its class -/
inductive Kd (K : PySem.W.Frag) (H : Hp) : V → String → Prop
  | int (i : Int) : Kd K H (.int i) "int"
  | bl (b : Bool) : Kd K H (.bl b) "bool"
  | non : Kd K H .non "NoneType"
  | str (s : Str) (h : s.length ≤ 100000) : Kd K H (.str s) "str"
  | tup {a : Addr} {xs : List V} (h : SqT K H a xs) : Kd K H (.ref a) "tuple"
  | lst {a : Addr} {xs : List V} (h : SqL K H a xs) : Kd K H (.ref a) "list"
  | dic {a : Addr} {kvs : List (Key × V)} (h : H a = some (.dK kvs)) : Kd K H (.ref a) "dict"
section
variable {T : Tl} {P : Program} {w : World} {K : PySem.W.Frag} {mg : Str → Option Value} {base : Heap} {A : Nat → Addr} {D : Nat → FuncData} {H H' : Hp} {x : V} {tn : String}
theorem Kd.ex (e : Ex T H H') (h : Kd K H x tn) : Kd K H' x tn := by
  cases h with
  | int i => exact .int i
  | bl b => exact .bl b
  | non => exact .non
  | str s h => exact .str s h
  | tup h => exact .tup (e.st h)
  | lst h => exact .lst (e.sl h)
  | dic h => exact .dic (e.dK h)
theorem Kd.ty (h : Kd K H x tn) : TyX K H x (.type tn) := by
  cases h with
  | int i => exact .base (.int i)
  | bl b => exact .base (.bl b)
  | non => exact .base .non
  | str s h => exact .base (.str s)
  | tup h =>
    rcases h with (h | ⟨o, h⟩) | ⟨o, its, n, h1, h2, _⟩
    · exact .base (.tup h)
    · exact .fTuple h
    · exact .kTuple h1 h2
  | lst h =>
    rcases h with (h | ⟨o, h⟩) | ⟨o, its, n, h1, h2, _⟩
    · exact .base (.lst h)
    · exact .base (.frz h)
    · exact .kList h1 h2
  | dic h => exact .base (.dK h)
theorem Kd.k_int (h : Kd K H x tn) : PySem.W.kitOne K (.type tn) (.type "int") = some (decide (tn = "int" ∨ tn = "bool")) := by
  cases h <;> exact kit_ty (by decide +kernel)
theorem Kd.k_bool (h : Kd K H x tn) : PySem.W.kitOne K (.type tn) (.type "bool") = some (decide (tn = "bool")) := by
  cases h <;> exact kit_ty (by decide +kernel)
theorem Kd.k_str (h : Kd K H x tn) : PySem.W.kitOne K (.type tn) (.type "str") = some (decide (tn = "str")) := by
  cases h <;> exact kit_ty (by decide +kernel)
theorem Kd.k_tuple (h : Kd K H x tn) : PySem.W.kitOne K (.type tn) (.type "tuple") = some (decide (tn = "tuple")) := by
  cases h <;> exact kit_ty (by decide +kernel)
/-! ### is_integer, is_number -/
def spInt (K : PySem.W.Frag) : Sp := fun vs H Q _ => ∃ x tn, vs = [x] ∧ Kd K H x tn ∧ Q (.bl (decide (tn = "int"))) H
theorem ok_is_integer (U : Txt K mg A D) : FnOk P w K mg base CX0 1 (A 9) (D 9) ["value"] (spInt K) := by
  refine (F_is_integer U).ok sc_is_integer (fun vs H Q E h => by obtain ⟨_, _, rfl, _⟩ := h; rfl) (fun cdv A' outer s H vs Q E hr h => ?_)
  obtain ⟨x, tn, rfl, hx, q⟩ := h
  refine ⟨_, PSs.nox (pss_one
      (ps_ret (pe_and (pe_callB (kc_isi K) (by rfl) (z_isinstance U) boot_isinstance (pa_cons (pv 0) (pa_cons (pe_bltn (v := .ty "int") (by rfl) (z_int U) boot_int rfl) pa_nil))) (pe_one (pe_not (pe_callB (kc_isi K) (by rfl) (z_isinstance U) boot_isinstance (pa_cons (pv 0) (pa_cons (pe_bltn (v := .ty "bool") (by rfl) (z_bool U) boot_bool rfl) pa_nil)))))))), ?_⟩
  refine ⟨_, rfl, x, .ty "int", _, _, _, rfl, .ty "int", hx.ty, hx.k_int, _, rfl, if_dec (fun z => ?_) fun z => ?_⟩
  · refine ⟨_, rfl, x, .ty "bool", _, _, _, rfl, .ty "bool", hx.ty, hx.k_bool, _, rfl, ?_⟩
    rw [show (!decide (tn = "bool")) = decide (tn = "int") by
      rcases z with rfl | rfl <;> decide]
    exact q
  · rw [show decide (tn = "int") = false from decide_eq_false fun y => z (.inl y)] at q
    exact q
def numB : V → Bool
  | .int i => decide (0 ≤ i)
  | _ => false
def spNbr (K : PySem.W.Frag) : Sp := fun vs H Q _ => ∃ x tn, vs = [x] ∧ Kd K H x tn ∧ Q (.bl (numB x)) H
theorem ok_is_number (U : Txt K mg A D) : FnOk P w K mg base CX0 2 (A 10) (D 10) ["value"] (spNbr K) := by
  have G_is_integer : FnOk P w K mg base CX0 1 (A 9) (D 9) ["value"] (spInt K) := ok_is_integer U
  refine (F_is_number U).ok sc_is_number (fun vs H Q E h => by obtain ⟨_, _, rfl, _⟩ := h; rfl) (fun cdv A' outer s H vs Q E hr h => ?_)
  obtain ⟨x, tn, rfl, hx, q⟩ := h
  refine ⟨_, PSs.nox (pss_one
      (ps_ret (pe_and (pe_f G_is_integer hr (by omega) (g_is_integer U) (F_is_integer U).kp (b_is_integer U) (pa_cons (pv 0) pa_nil)) (pe_one (pe_cmpR op_ge (pv 0) pe_int (nomark _)))))), ?_⟩
  refine ⟨_, rfl, x, tn, rfl, hx, _, rfl, if_dec (fun z => ?_) fun z => ?_⟩
  · cases hx with
    | int i => exact ⟨_, rfl, i, 0, rfl, rfl, q⟩
    | _ => exact absurd z (by decide)
  · cases hx with
    | int i => exact absurd rfl z
    | _ => exact q
/-! ### is_name -/
def nmB : V → Bool
  | .str s => decide (IsNm s)
  | _ => false
def spNm (T : Tl) (K : PySem.W.Frag) : Sp := fun vs H Q _ => ∃ x tn, vs = [x] ∧ Kd K H x tn ∧ ∀ H', Ex T H H' → Q (.bl (nmB x)) H'
theorem letters_iff (c : Nat) : c ∈ ("abcdefghijklmnopqrstuvwxyz" : Str).cps.toList ↔ 97 ≤ c ∧ c ≤ 122 := by
  have e : ("abcdefghijklmnopqrstuvwxyz" : Str).cps.toList = List.range' 97 26 := by decide +kernel
  rw [e, List.mem_range'_1]
  omega
theorem ok_is_name (U : Txt K mg A D) : FnOk P w K mg base CX0 1 (A 11) (D 11) ["value"] (spNm T K) := by
  obtain ⟨t1, gLETTERS⟩ := U.letters
  obtain ⟨t2, gLONGEST_NAME⟩ := U.longest
  refine (F_is_name U).ok sc_is_name (fun vs H Q E h => by obtain ⟨_, _, rfl, _⟩ := h; rfl) (fun cdv A' outer s H vs Q E hr h => ?_)
  obtain ⟨x, tn, rfl, hx, q⟩ := h
  refine ⟨_, PSs.nox (pss_cons
      (ps_if (PW.pt (pw_or (pt_not (pt_val (pe_callB (kc_isi K) (by rfl) (z_isinstance U) boot_isinstance (pa_cons (pv 0) (pa_cons (pe_bltn (v := .ty "str") (by rfl) (z_str U) boot_str rfl) pa_nil))))) (pw_or1 (pt_not (pt_chain op_le op_le pe_int (pe_callB (call_len_str) (by rfl) (z_len U) boot_len (pa_cons (pv 0) pa_nil)) (pe_glob (v := .int 5) (by rfl) gLONGEST_NAME ⟨_, rfl⟩))))))
       (pss_one
       (ps_ret pe_bl))
       pss_nil)
      (pss_one
      (ps_ret (pe_callB (kc_all K) (by rfl) (z_all U) boot_all (pa_cons (pe_lc (g := gName 1) (tt := tYes) rfl sc_is_name.nd (pi_str (pv 0)) (blkOk_by (N := N_is_name) (own := [("sign", 1)]) (by kernel_rfl)) (fun _ _ _ _ _ => (pg_name (i := 1) sc_is_name.nd rfl (.inl rfl))) (fun _ _ _ _ _ => pts_nil) (fun _ _ _ _ _ => (pe_cmpR op_in_sign (pv 1) (pe_glob (v := .str "abcdefghijklmnopqrstuvwxyz") (by rfl) gLETTERS ⟨_, rfl⟩) rfl))) pa_nil))))), ?_⟩
  refine ⟨_, rfl, x, .ty "str", _, _, _, rfl, .ty "str", hx.ty, hx.k_str, _, rfl, ?_⟩
  cases hx with
  | str s hs =>
    refine ⟨_, rfl, s, rfl, sz_ok hs, 1, _, rfl, rfl, _, rfl, ?_⟩
    have no : ¬ IsNm s → Q (.bl false) H := fun z => by
      have := q H (Ex.refl H)
      rw [show nmB (.str s) = false from decide_eq_false z] at this
      exact this
    refine if_dec (fun z => ?_) fun z => ⟨_, rfl, no fun y => z (by have := y.1; omega)⟩
    refine ⟨_, _, rfl, rfl, _, rfl, ?_⟩
    by_cases z2 : s.length ≤ 5
    · rw [decide_eq_true (show (s.length : Int) ≤ 5 by omega)]
      refine ⟨_, rfl, s, rfl, fun D hD => ?_⟩
      have hsz : s.cps.toList.length = s.cps.size := Array.length_toList
      have hsl : s.cps.size = s.length := rfl
      refine map_core (T := T) (K := K) (as := s.cps.toList) (fun c => some (.bool (decide (97 ≤ c ∧ c ≤ 122)))) walk_str hsz (by omega) (fun _ _ => trivial) hD ?_ ?_
      · rintro j c x H' H'' E N hc e ⟨acc, hacc⟩ ⟨rfl, c', hc', rfl⟩ _ hE
        have ec : c' = c := by
          rw [← Array.getElem?_toList, hc] at hc'
          exact (Option.some.inj hc').symm
        subst ec
        refine ⟨rfl, _, rfl, c', _, rfl, rfl, ?_⟩
        rw [show decide (c' ∈ ("abcdefghijklmnopqrstuvwxyz" : Str).cps.toList) = decide (97 ≤ c' ∧ c' ≤ 122) from decide_eq_decide.mpr (letters_iff c')]
        exact hE _ rfl _ H'' (Ex.refl _) fun o => .bl _
      · intro ys H' e h1 hy
        rw [fm_some] at hy
        have hb : ys = (s.cps.toList.map fun c => decide (97 ≤ c ∧ c ≤ 122)).map V.bl := dpa_bls (by rw [List.map_map]; exact hy)
        subst hb
        refine ⟨D, _, rfl, .inl (.inl h1), ?_⟩
        have := q H' e
        rw [show nmB (.str s) = (s.cps.toList.map fun c => decide (97 ≤ c ∧ c ≤ 122)).all id by
          show decide (IsNm s) = _
          rw [Bool.eq_iff_iff, decide_eq_true_iff, List.all_map, List.all_eq_true]
          unfold IsNm
          exact ⟨fun h c hc => decide_eq_true (h.2.2 c hc), fun h => ⟨by omega, by omega, fun c hc => of_decide_eq_true (h c hc)⟩⟩] at this
        exact this
    · rw [decide_eq_false (show ¬ (s.length : Int) ≤ 5 by omega)]
      exact no fun y => z2 y.2.1
  | _ => exact q H (Ex.refl H)
end
end K23
/-! W8: is_name_lot. -/
namespace K23
open PySem PySem.Spec PyProof.Rows L2
open PyData in
theorem can_strs : ∀ ns : List Str, (∀ s ∈ ns, strOk s = true) → canLayAll0 (ns.map PyData.str) = true
  | [], _ => by rw [List.map_nil, canLayAll0]
  | n :: r, h => by rw [List.map_cons, canLayAll0, can_strs r fun s hs => h s (List.mem_cons_of_mem _ hs), canLay0, h n List.mem_cons_self]; rfl
theorem shp_tup_strs {ns : List Str} (h : ∀ s ∈ ns, PyData.strOk s = true) : SeqAt.shaped (.tuple (ns.map PyData.str)) = true := by
  unfold SeqAt.shaped
  rw [PyData.canLay0, can_strs ns h, PyData.depth, depth_strs]; rfl
theorem eqvAll_strs : ∀ (ns ms : List Str), PyData.eqvAll (ns.map .str) (ms.map .str) = decide (ns = ms)
  | [], [] => by rw [List.map_nil, PyData.eqvAll]; rfl
  | [], m :: ms => by rw [List.map_nil, List.map_cons, PyData.eqvAll]; exact (decide_eq_false fun z => by cases z).symm
  | n :: ns, [] => by rw [List.map_nil, List.map_cons, PyData.eqvAll]; exact (decide_eq_false fun z => by cases z).symm
  | n :: ns, m :: ms => by
    rw [List.map_cons, List.map_cons, PyData.eqvAll, eqvAll_strs ns ms, PyData.eqv]
    by_cases h : n = m
    · subst h; simp
    · have : (n == m) = false := beq_eq_false_iff_ne.mpr h
      simp [this, h]
theorem eqv_tstrs (ns ms : List Str) : PyData.eqv (.tuple (ns.map .str)) (.tuple (ms.map .str)) = decide (ns = ms) := by rw [PyData.eqv, eqvAll_strs]
theorem eqvAll_ints : ∀ (ns ms : List Int), PyData.eqvAll (ns.map .int) (ms.map .int) = decide (ns = ms)
  | [], [] => by rw [List.map_nil, PyData.eqvAll]; rfl
  | [], m :: ms => by rw [List.map_nil, List.map_cons, PyData.eqvAll]; exact (decide_eq_false fun z => by cases z).symm
  | n :: ns, [] => by rw [List.map_nil, List.map_cons, PyData.eqvAll]; exact (decide_eq_false fun z => by cases z).symm
  | n :: ns, m :: ms => by
    rw [List.map_cons, List.map_cons, PyData.eqvAll, eqvAll_ints ns ms, PyData.eqv]
    by_cases h : n = m
    · subst h; simp
    · have : (n == m) = false := beq_eq_false_iff_ne.mpr h
      simp [this, h]
def strsOf (xs : List V) : List Str := xs.filterMap fun x => match x with
  | .str s => some s
  | _ => none
theorem strsOf_map (ss : List Str) : strsOf (ss.map V.str) = ss := by
  unfold strsOf
  induction ss with
  | nil => rfl
  | cons s r ih => rw [List.map_cons, List.filterMap_cons, ih]
theorem all_nm : ∀ {xs : List V}, xs.all nmB = true → xs = (strsOf xs).map V.str ∧ ∀ s ∈ strsOf xs, IsNm s
  | [], _ => ⟨rfl, fun s h => by cases h⟩
  | x :: r, h => by
    rw [List.all_cons, Bool.and_eq_true] at h
    obtain ⟨i1, i2⟩ := all_nm h.2
    cases x with
    | str s =>
      have e : strsOf (V.str s :: r) = s :: strsOf r := rfl
      rw [e]
      exact ⟨by rw [List.map_cons, ← i1], fun t ht => by
        rcases List.mem_cons.mp ht with rfl | ht
        · exact of_decide_eq_true h.1
        · exact i2 t ht⟩
    | _ => cases h.1
/-- a tuple of names, sorted, each once -/
def lotB (xs : List V) : Bool := xs.all nmB && decide (strsOf xs = sortN (uniq (strsOf xs)))
theorem uniq_sub : ∀ {ss : List Str} {s : Str}, s ∈ uniq ss ↔ s ∈ ss
  | [], s => Iff.rfl
  | x :: r, s => by
    rw [uniq]
    by_cases h : x ∈ r
    · rw [if_pos h, uniq_sub, List.mem_cons]
      exact ⟨.inr, fun z => z.elim (fun e => e ▸ h) id⟩
    · rw [if_neg h, List.mem_cons, List.mem_cons, uniq_sub]
theorem uniq_of : ∀ {ss : List Str}, ss.Nodup → uniq ss = ss
  | [], _ => rfl
  | x :: r, h => by
    rw [List.nodup_cons] at h
    rw [uniq, if_neg h.1, uniq_of h.2]
section
variable {T : Tl} {P : Program} {w : World} {K : PySem.W.Frag} {mg : Str → Option Value} {base : Heap} {A : Nat → Addr} {D : Nat → FuncData}
def spLot (T : Tl) (K : PySem.W.Frag) : Sp := fun vs H Q _ => ∃ x, vs = [x] ∧
  ((∃ a xs, x = .ref a ∧ SqT K H a xs ∧ xs.length < 64 ∧ (∀ y ∈ xs, ∃ tn, Kd K H y tn) ∧ ∀ H', Ex T H H' → Q (.bl (lotB xs)) H') ∨ (∃ tn, Kd K H x tn ∧ tn ≠ "tuple" ∧ ∀ H', Ex T H H' → Q (.bl false) H'))
theorem ok_is_name_lot (U : Txt K mg A D) : FnOk P w K mg base CX0 2 (A 12) (D 12) ["value"] (spLot T K) := by
  have G_is_name : FnOk P w K mg base CX0 1 (A 11) (D 11) ["value"] (spNm T K) := ok_is_name U
  refine (F_is_name_lot U).ok sc_is_name_lot (fun vs H Q E h => by obtain ⟨_, rfl, _⟩ := h; rfl) (fun cdv A' outer s H vs Q E hr h => ?_)
  obtain ⟨x, rfl, h⟩ := h
  refine ⟨_, PSs.nox (pss_cons
      (ps_if (PW.pt (pw_or (pt_not (pt_val (pe_callB (kc_isi K) (by rfl) (z_isinstance U) boot_isinstance (pa_cons (pv 0) (pa_cons (pe_bltn (v := .ty "tuple") (by rfl) (z_tuple U) boot_tuple rfl) pa_nil))))) (pw_or1 (pt_not (pt_val (pe_callB (kc_all K) (by rfl) (z_all U) boot_all (pa_cons (pe_lc (g := gName 1) (tt := tYes) rfl sc_is_name_lot.nd (ki_tup K (pv 0)) (blkOk_by (N := N_is_name_lot) (own := [("item", 1)]) (by kernel_rfl)) (fun _ _ _ _ _ => (pg_name (i := 1) sc_is_name_lot.nd rfl (.inl rfl))) (fun _ _ _ _ _ => pts_nil) (fun _ _ _ _ _ => (pe_f G_is_name hr (by omega) (g_is_name U) (F_is_name U).kp (b_is_name U) (pa_cons (pv 1) pa_nil)))) pa_nil)))))))
       (pss_one
       (ps_ret pe_bl))
       pss_nil)
      (pss_one
      (ps_ret (pe_cmpR (ko_eqD K hr.units) (pv 0) (pe_callTy (kc_tuple K) (by rfl) (z_tuple U) boot_tuple (pa_cons (pe_sortset K (z_sorted U) (z_set U) (pv 0)) pa_nil)) (nomark _))))), ?_⟩
  rcases h with ⟨a, xs, rfl, ha, hlen, hk, q⟩ | ⟨tn, hk, hn, q⟩
  · have hx : Kd K H (.ref a) "tuple" := .tup ha
    refine ⟨_, rfl, _, .ty "tuple", _, _, _, rfl, .ty "tuple", hx.ty, hx.k_tuple, _, rfl, ?_⟩
    refine ⟨_, rfl, a, rfl, ⟨xs, ha⟩, fun D hD => ?_⟩
    refine map_core (T := T) (K := K) (as := xs) (fun x => some (.bool (nmB x))) walk_tup rfl (by omega) (fun H' e => e.st ha) hD ?_ ?_
    · rintro j c x H' H'' E N hc e ⟨acc, hacc⟩ ⟨rfl, hx'⟩ _ hE
      have ec : c = x := by rw [hc] at hx'; exact Option.some.inj hx'
      subst ec
      obtain ⟨tn, hk'⟩ := hk c (List.mem_of_getElem? hc)
      exact ⟨rfl, _, rfl, c, tn, rfl, hk'.ex e, fun H3 e3 => hE _ rfl _ H3 e3 fun o => .bl _⟩
    · intro ys H1 e1 h1 hy
      rw [fm_some] at hy
      have hb : ys = (xs.map nmB).map V.bl := dpa_bls (by rw [List.map_map]; exact hy)
      subst hb
      refine ⟨D, _, rfl, .inl (.inl h1), _, rfl, ?_⟩
      rw [List.all_map]
      show if (!xs.all (id ∘ nmB)) = true then _ else _
      have hq := fun H' e => q H' (e1.trans e)
      unfold lotB at hq
      cases hall : xs.all nmB with
      | false =>
        rw [show xs.all (id ∘ nmB) = false from hall]
        rw [hall] at hq
        exact hq H1 (Ex.refl _)
      | true =>
        rw [show xs.all (id ∘ nmB) = true from hall]
        rw [hall] at hq
        obtain ⟨e2, hnm⟩ := all_nm hall
        have hl2 : (strsOf xs).length < 64 := by
          have := congrArg List.length e2
          rw [List.length_map] at this
          omega
        rw [e2] at ha
        refine ⟨_, rfl, _, rfl, a, strsOf xs, rfl, e1.st ha, hl2, fun p hp => ⟨p, _, rfl, .inl ⟨.inl (.inl upd_same), fun t ht => ?_⟩⟩⟩
        have e3 : Ex T H1 (upd (upd H1 p (.lst ((sortN (uniq (strsOf xs))).map V.str))) t (.tup ((sortN (uniq (strsOf xs))).map V.str))) := (Ex.new hp).trans (Ex.new ht)
        refine ⟨.tuple ((strsOf xs).map .str), .tuple ((sortN (uniq (strsOf xs))).map .str), .tup ((e1.trans e3).st ha) (dpa_of_strs _), .tup (.inl (.inl upd_same)) (dpa_of_strs _), shp_tup_strs fun s hs => (hnm s hs).ok,
          shp_tup_strs fun s hs => (hnm s (uniq_sub.mp (mem_sortN.mp hs))).ok, ?_⟩
        rw [eqv_tstrs]
        exact hq _ e3
  · refine ⟨_, rfl, _, .ty "tuple", _, _, _, rfl, .ty "tuple", hk.ty, hk.k_tuple, _, rfl, ?_⟩
    rw [decide_eq_false hn]
    exact q H (Ex.refl _)
end
end K23
/-! W9: check_pool_of, amounts_by_name, checked_row, pieces, short_kinds. -/
namespace K23
open PySem PySem.Spec PyProof.Rows L2
/-- a row that knows these names and no others -/
def RowAt (H : Hp) (a : Addr) (ns : List Str) (ρ : Str → Int) : Prop := ∃ kvs : List (Key × V), H a = some (.dK kvs) ∧ ∀ k, valV kvs k = match k with
  | .inr s => if s ∈ ns then some (.int (ρ s)) else none
  | .inl _ => none
theorem RowAt.on {H : Hp} {a : Addr} {ns ms : List Str} {ρ : Str → Int} (h : RowAt H a ns ρ) (s : ∀ x ∈ ms, x ∈ ns) : RowOn H a ms ρ := by
  obtain ⟨kvs, h1, h2⟩ := h
  exact ⟨kvs, h1, fun x hx => by rw [h2]; exact if_pos (s x hx)⟩
theorem RowAt.ex {T : Tl} {H H' : Hp} {a : Addr} {ns : List Str} {ρ : Str → Int} (h : RowAt H a ns ρ) (e : Ex T H H') : RowAt H' a ns ρ := by
  obtain ⟨kvs, h1, h2⟩ := h
  exact ⟨kvs, e.dK h1, h2⟩
theorem putK_len (kvs : List (Key × V)) (k : Key) (v : V) : (putK kvs k v).length ≤ kvs.length + 1 := by
  unfold putK
  split
  · rw [List.length_map]; omega
  · rw [List.length_append]; exact Nat.le_refl _
section
variable {T : Tl} {P : Program} {w : World} {K : PySem.W.Frag} {mg : Str → Option Value} {base : Heap} {A : Nat → Addr} {D : Nat → FuncData}
/-- a dict comprehension, turn by turn -/
theorem dc_it {J : It} {n : Nat} {G : Hp → Prop} {Y : Nat → Hp → V → Hp → Prop} (w : Walk J n G Y) {g : TG} {tt : TT} {tk tv : TE} {vs : List Nat} {σ : L2.St} {H1 : Hp} {D : Addr} {Qd : Hp → Prop} (Pv : Nat → Hp → Prop) (h0 : Pv 0 (upd H1 D (.dK []))) (hG : ∀ i H, i ≤ n → Pv i H → G H)
    (hs : ∀ i x H H', i < n → Pv i H → Y i H x H' → g x (wipe σ vs) H' fun σ2 H2 => wipe σ2 vs = wipe σ vs ∧ tt σ2 H2 fun b H3 =>
      if b = true then tk σ2 H3 fun y H4 => tv σ2 H4 fun z H5 => ∃ kvs k, y = kV k ∧ H5 D = some (.dK kvs) ∧ kvs.length < sizeLine ∧ Pv (i + 1) (upd H5 D (.dK (putK kvs k z))) else Pv (i + 1) H3) (hd : ∀ H, Pv n H → Qd H) :
    ∃ W : Nat → Nat → Hp → Prop, (∃ m, W 0 m (upd H1 D (.dK []))) ∧ ∀ i m H, W i m H →
      (J.stop i H ∧ Qd H) ∨ (J.go i H ∧ ∃ Nx : Hp → Prop, (∀ H', Nx H' → ∃ m', m' < m ∧ W (i + 1) m' H') ∧ ∀ x H', J.yld i H x H' → g x (wipe σ vs) H' fun σ2 H2 => wipe σ2 vs = wipe σ vs ∧ tt σ2 H2 fun b H3 =>
        if b = true then tk σ2 H3 fun y H4 => tv σ2 H4 fun z H5 => ∃ kvs k, y = kV k ∧ H5 D = some (.dK kvs) ∧ kvs.length < sizeLine ∧ Nx (upd H5 D (.dK (putK kvs k z))) else Nx H3) := by
  refine ⟨fun i m H => i + m = n ∧ Pv i H, ⟨n, by omega, h0⟩, fun i m H ⟨em, hp⟩ => ?_⟩
  by_cases hi : i < n
  · exact .inr ⟨w.goes i H hi (hG i H (by omega) hp), Pv (i + 1), fun H' q => ⟨m - 1, by omega, by omega, q⟩, fun x H' hy => hs i x H H' hi hp (w.yields i H x H' hi (hG i H (by omega) hp) hy)⟩
  · have e : i = n := by omega
    rw [e] at hp ⊢
    exact .inl ⟨w.stops H (hG n H (Nat.le_refl _) hp), hd H hp⟩
theorem walk_zipT {a b : Addr} {xs ys : List V} {n : Nat} (h1 : xs.length = n) (h2 : ys.length = n) : Walk (RZ.ItzT K a b) n (fun H => SqT K H a xs ∧ SqT K H b ys) (YPair (fun i => xs[i]?) (fun i => ys[i]?)) where
  goes := fun i H hi h => ⟨xs, ys, xs[i]'(by omega), ys[i]'(by omega), h.1, h.2, List.getElem?_eq_getElem _, List.getElem?_eq_getElem _⟩
  stops := fun H h => ⟨xs, ys, h.1, h.2, .inl (by omega)⟩
  yields := fun i H x H' hi h ⟨t, u, v, e1, e2, e3, e4, e5⟩ => ⟨t, u, v, e1, e2, e3, e4 xs h.1, e5 ys h.2⟩
/-! ### check_pool_of -/
/-- a pool of the formula -/
def PoolAt (K : PySem.W.Frag) (H : Hp) (a : Addr) (ns : List Str) (ρ : Str → Int) : Prop := SqT K H a ((sortN ns).map fun s => V.int (ρ s)) ∧ ∀ s ∈ ns, 0 ≤ ρ s ∧ ρ s ≤ 10 ^ 18
theorem PoolAt.ex {H H' : Hp} {a : Addr} {ns : List Str} {ρ : Str → Int} (h : PoolAt K H a ns ρ) (e : Ex T H H') : PoolAt K H' a ns ρ := ⟨e.st h.1, h.2⟩
def spChk (T : Tl) (K : PySem.W.Frag) : Sp := fun vs H Q _ => ∃ (v : V) (f : Fm Str) (a : Addr) (ρ : Str → Int), vs = [v, .ref a] ∧ Dp K H v (enc f) ∧ FmOk f ∧ depth f < 24 ∧ PoolAt K H a f.names ρ ∧ ∀ H', Ex T H H' → Q .non H'
theorem ok_check_pool_of (U : Txt K mg A D) : FnOk P w K mg base CX0 26 (A 20) (D 20) ["formula", "value"] (spChk T K) := by
  obtain ⟨t3, gMOST_POOL⟩ := U.most
  have G_is_number : FnOk P w K mg base CX0 2 (A 10) (D 10) ["value"] (spNbr K) := ok_is_number U
  have G_kinds_of : FnOk P w K mg base CX0 25 (A 15) (D 15) ["formula"] (spKinds T K) := ok_kinds_of U
  refine (F_check_pool_of U).ok sc_check_pool_of (fun vs H Q E h => by obtain ⟨_, _, _, _, rfl, _⟩ := h; rfl) (fun cdv A' outer s H vs Q E hr h => ?_)
  obtain ⟨v, f, a, ρ, rfl, hv, hok, hdep, hp, q⟩ := h
  refine ⟨_, PSs.nox (pss_cons
      (ps_if (PW.pt (pw_or (pt_not (pt_val (pe_callB (kc_isi K) (by rfl) (z_isinstance U) boot_isinstance (pa_cons (pv 1) (pa_cons (pe_bltn (v := .ty "tuple") (by rfl) (z_tuple U) boot_tuple rfl) pa_nil))))) (pw_or1 (pt_cmpR op_ne (pe_callB (kc_len K) (by rfl) (z_len U) boot_len (pa_cons (pv 1) pa_nil)) (pe_callB (kc_len K) (by rfl) (z_len U) boot_len (pa_cons (pe_f G_kinds_of hr (by omega) (g_kinds_of U) (F_kinds_of U).kp (b_kinds_of U) (pa_cons (pv 0) pa_nil)) pa_nil)) (nomark _)))))
       (pss_one
       ps_never)
       pss_nil)
      (pss_one
      (ps_for PassesOwn.never rfl (pi_enumT K (z_enumerate U) (pa_cons (pv 1) pa_nil)) (kg_tup K (n := 2) (pgs_cons (pg_name (i := 2) sc_check_pool_of.nd rfl (.inl rfl)) (pgs_cons (pg_name (i := 3) sc_check_pool_of.nd rfl (.inl rfl)) pgs_nil)))
       (pss_one
       (ps_if (PW.pt (pw_or (pt_not (pt_val (pe_f G_is_number hr (by omega) (g_is_number U) (F_is_number U).kp (b_is_number U) (pa_cons (pv 3) pa_nil)))) (pw_or1 (pt_cmpR op_gt (pv 3) (pe_glob (v := .int (10 ^ 18)) (by rfl) gMOST_POOL ⟨_, rfl⟩) (nomark _)))))
        (pss_one
        ps_never)
        pss_nil))))), ?_⟩
  have hx : Kd K H (.ref a) "tuple" := .tup hp.1
  refine ⟨_, rfl, _, .ty "tuple", _, _, _, rfl, .ty "tuple", hx.ty, hx.k_tuple, _, rfl, ?_⟩
  refine ⟨_, rfl, a, _, rfl, .inr hp.1, _, rfl, v, f, rfl, hv, hok, hdep, fun H1 p f1 e1 h1 => ⟨p, _, rfl, .inr (.inl (.inl h1)), rfl, _, rfl, ?_⟩⟩
  rw [List.length_map, List.length_map, decide_eq_true rfl]
  -- the loop
  refine ⟨_, rfl, a, _, rfl, e1.st hp.1, ?_⟩
  refine for_it (walk_enumT (xs := (sortN f.names).map fun s => V.int (ρ s))) (fun i σ H' => ∃ y2 y3, σ = [some v, some (.ref a), y2, y3] ∧ Ex T H H') ⟨none, none, rfl, e1⟩ ?_ ?_ ?_
  · rintro i σ H' _ ⟨_, _, _, e⟩; exact e.st hp.1
  · rintro i x σ H2 H3 hi ⟨y2, y3, rfl, e2⟩ ⟨t, y, z, rfl, ht, rfl, hy, hz⟩
    cases hy
    have e3 : Ex T H (upd H2 t (.tup [.int (i : Nat), z])) := e2.trans (Ex.new ht)
    obtain ⟨s, hs, rfl⟩ := List.mem_map.mp (List.mem_of_getElem? hz)
    have hb := hp.2 s (mem_sortN.mp hs)
    refine ⟨t, _, rfl, .inl (.inl upd_same), rfl, _, _, rfl, _, _, rfl, rfl, ?_⟩
    refine ⟨_, rfl, .int (ρ s), "int", rfl, .int _, _, rfl, ?_⟩
    rw [show numB (.int (ρ s)) = true from decide_eq_true hb.1]
    refine ⟨_, rfl, ρ s, _, rfl, rfl, _, rfl, ?_⟩
    rw [decide_eq_false (show ¬ ((10 : Int) ^ 18 < ρ s) by omega)]
    exact ⟨_, _, rfl, e3⟩
  · rintro σ H' ⟨y2, y3, rfl, e2⟩
    exact q H' e2
/-! ### amounts_by_name, checked_row, pieces -/
def spAmt (T : Tl) (K : PySem.W.Frag) : Sp := fun vs H Q _ => ∃ (v : V) (f : Fm Str) (a : Addr) (ρ : Str → Int), vs = [v, .ref a] ∧ Dp K H v (enc f) ∧ FmOk f ∧ depth f < 24 ∧ PoolAt K H a f.names ρ ∧ ∀ H' d, Fr H d → Ex T H H' → RowAt H' d f.names ρ → Q (.ref d) H'
theorem ok_amounts_by_name (U : Txt K mg A D) : FnOk P w K mg base CX0 26 (A 21) (D 21) ["formula", "pool"] (spAmt T K) := by
  have G_kinds_of : FnOk P w K mg base CX0 25 (A 15) (D 15) ["formula"] (spKinds T K) := ok_kinds_of U
  refine (F_amounts_by_name U).ok sc_amounts_by_name (fun vs H Q E h => by obtain ⟨_, _, _, _, rfl, _⟩ := h; rfl) (fun cdv A' outer s H vs Q E hr h => ?_)
  obtain ⟨v, f, a, ρ, rfl, hv, hok, hdep, hp, q⟩ := h
  refine ⟨_, PSs.nox (pss_one
      (ps_ret (pe_dc (tt := tYes) rfl sc_amounts_by_name.nd (ki_zip K (by rfl) (z_zip U) (pa_cons (pe_f G_kinds_of hr (by omega) (g_kinds_of U) (F_kinds_of U).kp (b_kinds_of U) (pa_cons (pv 0) pa_nil)) (pa_cons (pv 1) pa_nil))) (blkOk_by (N := N_amounts_by_name) (own := [("name", 2), ("amount", 3)]) (by kernel_rfl)) (fun _ _ _ _ _ => (kg_tup K (n := 2) (pgs_cons (pg_name (i := 2) sc_amounts_by_name.nd rfl (.inl rfl)) (pgs_cons (pg_name (i := 3) sc_amounts_by_name.nd rfl (.inl rfl)) pgs_nil)))) (fun _ _ _ _ _ => pts_nil) (fun _ _ _ _ _ => (pv 2)) (fun _ _ _ _ _ => (pv 3))))), ?_⟩
  have hn : (sortN f.names).length ≤ 8 := by rw [sortN_len]; exact hok.few
  refine ⟨_, rfl, v, f, rfl, hv, hok, hdep, fun H1 p f1 e1 h1 => ⟨_, rfl, p, a, _, _, rfl, .inr ⟨.inl (.inl h1), e1.st hp.1, fun D hD => ?_⟩⟩⟩
  refine dc_it (walk_zipT (n := (sortN f.names).length) (List.length_map ..) (List.length_map ..)) (fun i H' => Ex T H1 H' ∧ ∃ kvs : List (Key × V), H' D = some (.dK kvs) ∧ kvs.length ≤ i ∧ ∀ k, valV kvs k = match k with
      | .inr s => if s ∈ (sortN f.names).take i then some (.int (ρ s)) else none
      | .inl _ => none) ⟨Ex.new hD, [], upd_same, Nat.le_refl _, fun k => by cases k <;> rfl⟩ (fun i H' _ h => ⟨h.1.st (.inl (.inl h1)), h.1.st (e1.st hp.1)⟩) ?_ ?_
  · rintro i x H2 H3 hi ⟨e2, kvs, h2, hl, hk⟩ ⟨t, y, z, rfl, ht, rfl, hy, hz⟩
    obtain ⟨s, hs⟩ : ∃ s, (sortN f.names)[i]? = some s := ⟨_, List.getElem?_eq_getElem hi⟩
    replace hy : (List.map V.str (sortN f.names))[i]? = some y := hy
    replace hz : (List.map (fun s => V.int (ρ s)) (sortN f.names))[i]? = some z := hz
    rw [List.getElem?_map, hs] at hy hz
    cases hy; cases hz
    have nt : D ≠ t := ne_of_none h2 ht
    have e3 : Ex T H1 (upd H2 t (.tup [.str s, .int (ρ s)])) := e2.trans (Ex.new ht)
    have h3 : (upd H2 t (.tup [.str s, .int (ρ s)])) D = some (.dK kvs) := by rw [upd_ne nt]; exact h2
    refine ⟨t, _, rfl, .inl (.inl upd_same), rfl, _, _, rfl, _, _, rfl, rfl, rfl, _, rfl, _, rfl, kvs, .inr s, rfl, h3, sz_lt (by omega), ?_, putK kvs (.inr s) (.int (ρ s)), upd_same, ?_, fun k => ?_⟩
    · exact e3.mutK hD h3
    · have := putK_len kvs (.inr s) (.int (ρ s)); omega
    · rw [valV_put, hk, take_snoc hs]
      cases k with
      | inl i => rfl
      | inr s' =>
        by_cases hss : s' = s
        · subst hss
          rw [if_pos rfl]
          exact (if_pos (List.mem_append_right _ (List.mem_singleton_self _))).symm
        · rw [if_neg (fun z => hss (Sum.inr.inj z))]
          show (if s' ∈ (sortN f.names).take i then _ else _) = if s' ∈ (sortN f.names).take i ++ [s] then _ else _
          by_cases hm : s' ∈ (sortN f.names).take i
          · rw [if_pos hm, if_pos (List.mem_append_left _ hm)]
          · rw [if_neg hm, if_neg (fun z => (List.mem_append.mp z).elim hm fun y => hss (List.mem_singleton.mp y))]
  · rintro H' ⟨e2, kvs, h2, hl, hk⟩
    refine q H' D (Fr.new e1 hD) (e1.trans e2) ⟨kvs, h2, fun k => ?_⟩
    rw [hk, List.take_length]
    cases k with
    | inl i => rfl
    | inr s => simp only [mem_sortN]
theorem ok_checked_row (U : Txt K mg A D) : FnOk P w K mg base CX0 27 (A 22) (D 22) ["formula", "pool"] (spAmt T K) := by
  have G_check_pool_of : FnOk P w K mg base CX0 26 (A 20) (D 20) ["formula", "value"] (spChk T K) := ok_check_pool_of U
  have G_amounts_by_name : FnOk P w K mg base CX0 26 (A 21) (D 21) ["formula", "pool"] (spAmt T K) := ok_amounts_by_name U
  refine (F_checked_row U).ok sc_checked_row (fun vs H Q E h => by obtain ⟨_, _, _, _, rfl, _⟩ := h; rfl) (fun cdv A' outer s H vs Q E hr h => ?_)
  obtain ⟨v, f, a, ρ, rfl, hv, hok, hdep, hp, q⟩ := h
  refine ⟨_, PSs.nox (pss_cons
      (ps_expr (pe_f G_check_pool_of hr (by omega) (g_check_pool_of U) (F_check_pool_of U).kp (b_check_pool_of U) (pa_cons (pv 0) (pa_cons (pv 1) pa_nil))))
      (pss_one
      (ps_ret (pe_f G_amounts_by_name hr (by omega) (g_amounts_by_name U) (F_amounts_by_name U).kp (b_amounts_by_name U) (pa_cons (pv 0) (pa_cons (pv 1) pa_nil)))))), ?_⟩
  exact ⟨_, rfl, _, rfl, v, f, a, ρ, rfl, hv, hok, hdep, hp, fun H1 e1 => ⟨_, rfl, _, rfl, v, f, a, ρ, rfl, e1.dp hv, hok, hdep, hp.ex e1, fun H2 d f2 e2 h2 => q H2 d (f2.back e1) (e1.trans e2) h2⟩⟩
def spPcs (T : Tl) (K : PySem.W.Frag) : Sp := fun vs H Q _ => ∃ (v : V) (f : Fm Str) (a : Addr) (ρ : Str → Int), vs = [v, .ref a] ∧ Dp K H v (enc f) ∧ FmOk f ∧ depth f < 24 ∧ PoolAt K H a f.names ρ ∧ ∀ H', Ex T H H' → Q (.int (num ρ f)) H'
theorem ok_pieces (U : Txt K mg A D) : FnOk P w K mg base CX0 28 (A 24) (D 24) ["formula", "pool"] (spPcs T K) := by
  have G_checked_row : FnOk P w K mg base CX0 27 (A 22) (D 22) ["formula", "pool"] (spAmt T K) := ok_checked_row U
  have G_number_of : FnOk P w K mg base CX0 24 (A 23) (D 23) ["formula", "row"] (spNum T K 24) := ok_number_of U 24
  refine (F_pieces U).ok sc_pieces (fun vs H Q E h => by obtain ⟨_, _, _, _, rfl, _⟩ := h; rfl) (fun cdv A' outer s H vs Q E hr h => ?_)
  obtain ⟨v, f, a, ρ, rfl, hv, hok, hdep, hp, q⟩ := h
  refine ⟨_, PSs.nox (pss_one
      (ps_ret (pe_f G_number_of hr (by omega) (g_number_of U) (F_number_of U).kp (b_number_of U) (pa_cons (pv 0) (pa_cons (pe_f G_checked_row hr (by omega) (g_checked_row U) (F_checked_row U).kp (b_checked_row U) (pa_cons (pv 0) (pa_cons (pv 1) pa_nil))) pa_nil))))), ?_⟩
  exact ⟨_, rfl, _, rfl, _, rfl, v, f, a, ρ, rfl, hv, hok, hdep, hp, fun H1 d f1 e1 h1 => ⟨v, f, d, ρ, rfl, e1.dp hv, hok, hdep, h1.on fun _ => id, fun H2 e2 => q H2 (e1.trans e2)⟩⟩
/-! ### short_kinds -/
def shorts (ρ : Str → Int) (f : Fm Str) : List Str := (sortN f.names).filter fun s => (target ρ s f (num ρ f + 1)).isSome
def spShort (T : Tl) (K : PySem.W.Frag) : Sp := fun vs H Q _ => ∃ (v : V) (f : Fm Str) (a : Addr) (ρ : Str → Int), vs = [v, .ref a] ∧ Dp K H v (enc f) ∧ FmOk f ∧ depth f < 24 ∧ PoolAt K H a f.names ρ ∧
  ∀ H' p, Fr H p → Ex T H H' → H' p = some (.tup ((shorts ρ f).map V.str)) → Q (.ref p) H'
theorem ok_short_kinds (U : Txt K mg A D) : FnOk P w K mg base CX0 49 (A 27) (D 27) ["formula", "pool"] (spShort T K) := by
  have G_checked_row : FnOk P w K mg base CX0 27 (A 22) (D 22) ["formula", "pool"] (spAmt T K) := ok_checked_row U
  have G_number_of : FnOk P w K mg base CX0 24 (A 23) (D 23) ["formula", "row"] (spNum T K 24) := ok_number_of U 24
  have G_kinds_of : FnOk P w K mg base CX0 25 (A 15) (D 15) ["formula"] (spKinds T K) := ok_kinds_of U
  have G_target_of : FnOk P w K mg base CX0 48 (A 25) (D 25) ["formula", "row", "name", "many"] (spTgt T K 24) := ok_target_of U 24
  refine (F_short_kinds U).ok sc_short_kinds (fun vs H Q E h => by obtain ⟨_, _, _, _, rfl, _⟩ := h; rfl) (fun cdv A' outer s H vs Q E hr h => ?_)
  obtain ⟨v, f, a, ρ, rfl, hv, hok, hdep, hp, q⟩ := h
  refine ⟨_, PSs.nox (pss_cons
      (ps_set (i := 2) sc_short_kinds.nd rfl (.inr rfl) (pe_f G_checked_row hr (by omega) (g_checked_row U) (F_checked_row U).kp (b_checked_row U) (pa_cons (pv 0) (pa_cons (pv 1) pa_nil))))
      (pss_cons
      (ps_set (i := 3) sc_short_kinds.nd rfl (.inr rfl) (pe_op op_add (pe_f G_number_of hr (by omega) (g_number_of U) (F_number_of U).kp (b_number_of U) (pa_cons (pv 0) (pa_cons (pv 2) pa_nil))) pe_int))
      (pss_one
      (ps_ret (pe_callTy (kc_tuple K) (by rfl) (z_tuple U) boot_tuple (pa_cons (pe_lc (g := gName 4) rfl sc_short_kinds.nd (ki_tup K (pe_f G_kinds_of hr (by omega) (g_kinds_of U) (F_kinds_of U).kp (b_kinds_of U) (pa_cons (pv 0) pa_nil))) (blkOk_by (N := N_short_kinds) (own := [("name", 4)]) (by kernel_rfl)) (fun _ _ _ _ _ => (pg_name (i := 4) sc_short_kinds.nd rfl (.inl rfl))) (fun _ _ _ _ _ => (pts_one (pt_cmpR op_notN (pe_f G_target_of hr (by omega) (g_target_of U) (F_target_of U).kp (b_target_of U) (pa_cons (pv 0) (pa_cons (pv 2) (pa_cons (pv 4) (pa_cons (pv 3) pa_nil))))) pe_non (nomark _)))) (fun _ _ _ _ _ => (pv 4))) pa_nil)))))), ?_⟩
  refine ⟨_, rfl, _, rfl, v, f, a, ρ, rfl, hv, hok, hdep, hp, fun H1 d f1 e1 h1 => ?_⟩
  refine ⟨_, rfl, _, rfl, v, f, d, ρ, rfl, e1.dp hv, hok, hdep, h1.on fun _ => id, fun H2 e2 => ⟨_, _, rfl, rfl, ?_⟩⟩
  have e12 := e1.trans e2
  refine ⟨_, rfl, v, f, rfl, e12.dp hv, hok, hdep, fun H3 p f3 e3 h3 => ⟨p, rfl, ⟨_, .inl (.inl h3)⟩, fun D hD => ?_⟩⟩
  have e13 := e12.trans e3
  have hn : (sortN f.names).length ≤ 8 := by rw [sortN_len]; exact hok.few
  refine map_tup (T := T) (e := PyData.str) (as := sortN f.names) (.inl (.inl h3)) (dpa_of_strs _) (fun s => if (target ρ s f (num ρ f + 1)).isSome then some (.str s) else none) (by omega) hD ?_ ?_
  · intro s x H' E N hs e hx g1 g2
    have := hx.at_str
    subst this
    refine ⟨rfl, _, rfl, _, rfl, _, rfl, _, rfl, v, f, d, ρ, s, _, rfl, (e13.trans e).dp hv, hok, hdep, Nat.le_refl _, (h1.ex ((e2.trans e3).trans e)).on fun _ => id, mem_sortN.mp hs, fun H4 e4 => ⟨rfl, _, rfl, ?_⟩⟩
    cases ht : target ρ s f (num ρ f + 1) with
    | none => exact g1 (by rw [ht]; rfl) H4 e4
    | some t => exact ⟨_, rfl, g2 _ (by rw [ht]; rfl) _ H4 e4 rfl (.str s)⟩
  · intro ys H4 e4 h4 hy
    rw [fm_filter] at hy
    have := dpa_strs hy
    subst this
    refine ⟨D, _, rfl, .inl ⟨.inl (.inl h4), fun t ht => ?_⟩⟩
    have e14 := (e13.trans e4).trans (Ex.new ht (o := .tup ((shorts ρ f).map V.str)))
    exact q _ t (Fr.new (e13.trans e4) ht) e14 upd_same
end
end K23
set_option maxHeartbeats 2000000
/-! E2: the two error classes; raise; in a tuple of texts, of any value. -/
namespace K23
open PySem PySem.Spec PyProof.Rows L2
/-- an error class of the program -/
structure ErrC (P : Program) (w : World) (K : PySem.W.Frag) (mg : Str → Option Value) (base : Heap) (x : Str) (C fI : Addr) (fd : FuncData) : Prop where
  g : mg x = some (.ref C)
  ox : OexC K C
  iC : PySem.W.findIn K (.ref C) "__init__" = some (some (.ref fI))
  tI : PySem.W.typeIn K (.ref fI) = some (.type "function")
  no : PySem.W.findIn K (.ref C) "word" = some none
  xf : XfC K C
  init : FnOk P w K mg base CX0 1 fI fd ["self", "word"] (spInit C "word")
  b : Binds K fd ["self", "word"] []
structure Errs (P : Program) (w : World) (K : PySem.W.Frag) (mg : Str → Option Value) (base : Heap) (CN CR fN fR : Addr) (dN dR : FuncData) : Prop where
  num : ErrC P w K mg base "InvalidNumber" CN fN dN
  ref : ErrC P w K mg base "Refused" CR fR dR
  nn : PySem.W.exmOne K (.ref CN) (.ref CN) = some true
  rn : PySem.W.exmOne K (.ref CR) (.ref CN) = some false
  rr : PySem.W.exmOne K (.ref CR) (.ref CR) = some true
/-- an error is known by its class and its word -/
def errX (T : Tl) (C : Addr) (m : Str) (H : Hp) : XK := fun cls d H' => cls = .ref C ∧ ∃ dd, d = some dd ∧ H' dd = some (.xd [("word", .str m)]) ∧ Ex T H H'
section
variable {X : Cx} {W : WX} {x m : Str} {C fI : Addr} {fd : FuncData} {j k : Nat} {p p2 pos pos2 : Pos}
def tErr (C : Addr) (m : Str) (W : WX) : TS := fun _ σ H => tMkO C (spInit C "word") [] (tCons (tC (.str m)) tNil) σ H fun cls d H' => W cls d σ H'
theorem ps_err (hc : X.calm = true) (tk : Takes X W) (E : ErrC X.prog X.w X.K X.mg X.base x C fI fd) (hr : Room j X.A) (h2 : 2 ≤ j) (hg : Gl X x) (hd : (x == ("__debug__" : Str)) = false := by decide) :
    PS X (.Raise (some (.Call (.Name x p) [.Constant (.str m) k p2] [] pos)) none pos2) (tErr C m W) :=
  ps_raise hc tk (pmk_oex E.ox E.iC E.tI E.init (hr.mono h2) E.b .nil pass0 hg E.g (pa_cons pe_str pa_nil) hd)
theorem err_q {T : Tl} {σ : L2.St} {H : Hp} {D : Ends} (q : ∀ (dd : Addr) (H' : Hp), Ex T H H' → H' dd = some (.xd [("word", .str m)]) → W (.ref C) (some dd) σ H') : tErr C m W D σ H := by
  refine ⟨Nat.le_trans (Nat.le_refl 1) (by decide), fun a na => ⟨a, .str m, rfl, upd_same, fun dx ndx ne => ⟨rfl, dx, [("word", .str m)], upd_same, ?_, ?_, ?_⟩⟩⟩
  · rw [upd_ne ne]; exact upd_same
  · rw [upd_ne ne] at ndx; exact ndx
  · refine q dx _ (.of fun b u e => ?_) upd_same
    have ba : b ≠ a := ne_of_none e na
    have bd : b ≠ dx := ne_of_none e (by rw [upd_ne ne] at ndx; exact ndx)
    rw [upd_ne bd, del_ne ba, upd_ne ba, upd_ne bd, upd_ne ba]
    exact e
end
theorem eqv_str (a b : Str) : PyData.eqv (.str a) (.str b) = decide (a = b) := by
  rw [Bool.eq_iff_iff]
  simp [PyData.eqv]
/-! ### in, not in -/
def rNotInO (K : PySem.W.Frag) : R2 := fun x y H Q => ∃ (p : Addr) (ns : List Str), y = .ref p ∧ SqT K H p (ns.map V.str) ∧ (∀ s ∈ ns, PyData.strOk s = true) ∧
  ((∃ d, Dp K H x d ∧ d.canLay0 = true ∧ Q (.bl (!ns.any fun z => PyData.eqv (.str z) d)) H) ∨ ((∃ a, x = .ref a ∧ H a = some (.dK [])) ∧ Q (.bl true) H))
theorem kc_notInO (K : PySem.W.Frag) {X : Cx} (hu : X.A.units + 64 < cLine) (h : X.K = K := by rfl) : OpR X (compareOp .NotIn) (rNotInO K) := by
  cases h
  rintro pins s σ H x y v u Q I rx ry ⟨p, ns, rfl, hp, ok, ⟨d, hd, cl, q⟩ | ⟨⟨a, rfl, ha⟩, q⟩⟩
  rotate_left
  · cases rx
    cases ry
    obtain ⟨_, _, vs, kv, o, es, ep, e1, e2, e3, _⟩ := I.hok a _ ha
    obtain ⟨its, rv, pl, hz0⟩ := I.tuple hp
    refine SeqAt.notIn_tupleAt (fun _ => false) pl (fun z hz => ?_) ⟨.bl _, H, I, rfl, ?_⟩
    · obtain ⟨b, t, rfl⟩ : ∃ b t, z = .str b t := by
        have hz' : z ∈ its := by simpa using hz
        clear hz pl hz0
        generalize hg : ns.map V.str = xs at rv
        clear hp ok
        induction rv generalizing ns with
        | nil => cases hz'
        | @cons x0 z0 xs0 zs0 r0 rt ih =>
          cases ns with
          | nil => cases hg
          | cons n ns =>
            rw [List.map_cons] at hg
            injection hg with g1 g2
            rcases List.mem_cons.mp hz' with e | e
            · subst g1
              obtain ⟨t, ht⟩ := r0
              exact ⟨n, t, e.trans ht⟩
            · exact ih ns e g2
      exact eq_str_dict b t ⟨o, e1, e2.1, e3⟩ (by show X.A.units + 1 < cLine; omega)
    · rw [show (its.toArray.any fun _ => false) = false by simp]
      exact q
  obtain ⟨as, r1⟩ := Dp.reads I d x v hd rx
  obtain ⟨bs, r2⟩ := Dp.reads I (.tuple (ns.map .str)) (.ref p) u (.tup hp (dpa_of_strs ns)) ry
  have dz : ∀ l : List Str, PyData.depthAll (l.map .str) = 0 := fun l => by
    induction l with
    | nil => simp [PyData.depthAll]
    | cons y l ih => rw [List.map_cons, PyData.depthAll, ih]; simp [PyData.depth]
  refine SeqAt.notIn_tuple_reads r2 r1 (SeqAt.canLay_of_shaped (shp_tup_strs ok)) cl (by rw [dz]; omega) ⟨.bl _, H, I, rfl, ?_⟩
  rw [List.any_map]
  exact q
end K23
set_option maxHeartbeats 4000000
/-! X1: the error classes as the top leaves them; the Hook. -/
namespace K23
open PySem PySem.Spec PyProof.Rows L2
/-- the __init__ of the class that stands at place i of the top -/
def iniS (i : Nat) : Stmt := match topS i with
  | .ClassDef _ _ _ b _ _ _ _ _ _ _ => b.getD 0 (.Pass ⟨0, 0, 0, 0⟩)
  | _ => .Pass ⟨0, 0, 0, 0⟩
abbrev IniV : Type := Option (Str × Str × Arguments × FuncBody × Scope × Addr × List Str × Addr)
def iniW (K : PySem.W.Frag) (x : Str) : IniV := match K.lookup (He.ma K (He.ga K x) "__init__") with
  | some ⟨_, _, .func fd, _⟩ => some (fd.name, fd.qualname, fd.params, fd.body, fd.scope, fd.globals, fd.closure.map (·.1), fd.builtins)
  | _ => none
def iniVal (q : Str) (i : Nat) : IniV := some ("__init__", q, defArgs (iniS i), .stmts (defBody (iniS i)), defScope (iniS i), mainGlobals, ["__class__"], builtinsNs)
def clsB (K : PySem.W.Frag) (C : Addr) : Bool := match K.lookup C with
  | some ⟨.type t, _, .cls cd, sl⟩ => (match cd.mro, sl.toList with
    | .ref C' :: bm, [_, _, _, _, some (.builtin n), _] => decide (t = "type") && (decide (C' = C) && (decide (n = "ValueError.__new__") && (!cd.hasDel && (cd.hasDict && HandSPX.refsVE bm))))
    | _, _ => false)
  | _ => false
theorem clsB_ok {K : PySem.W.Frag} {C : Addr} (h : clsB K C = true) : ∃ nm q N bs bm sn sub ab col dd k0 k1 k2 k3 k5, K.lookup C = some (excClassObj nm q C N bs bm true sn sub ab col dd k0 k1 k2 k3 k5 "ValueError.__new__") ∧ HandSPX.refsVE bm = true := by
  unfold clsB at h
  split at h
  · rename_i t dd cd sl ho
    split at h
    · rename_i C' bm k0 k1 k2 k3 n k5 hm hs
      obtain ⟨h1, h⟩ := He.ba h
      obtain ⟨h2, h⟩ := He.ba h
      obtain ⟨h3, h⟩ := He.ba h
      obtain ⟨h4, h⟩ := He.ba h
      obtain ⟨h5, h6⟩ := He.ba h
      obtain rfl := of_decide_eq_true h1
      obtain rfl := of_decide_eq_true h2
      obtain rfl := of_decide_eq_true h3
      obtain ⟨nm, bs, mro, ns, qn, hd, sn, sub, ab, col, del⟩ := cd
      have h5 : hd = true := h5
      have h4 : (!del) = true := h4
      have hm : mro = .ref C' :: bm := hm
      subst h5 hm
      have hdel : del = false := by
        cases del with
        | false => rfl
        | true => cases h4
      subst hdel
      have hsl : sl = #[k0, k1, k2, k3, some (.builtin "ValueError.__new__"), k5] := by
        obtain ⟨l⟩ := sl
        have hs : l = [k0, k1, k2, k3, some (.builtin "ValueError.__new__"), k5] := hs
        rw [hs]
      subst hsl
      exact ⟨nm, qn, ns, bs, bm, sn, sub, ab, col, dd, k0, k1, k2, k3, k5, ho, h6⟩
    · cases h
  · cases h
def noneB (v : Value) : Bool := match v with
  | .none => true
  | _ => false
theorem noneB_ok {v : Value} (h : noneB v = true) : v = .none := by
  unfold noneB at h
  split at h
  · rfl
  · cases h
def fileB (file : Str) (vs : Array Value) : Bool := match (vs[2]? : Option Value) with
  | some (.str z _) => decide (file = z)
  | _ => false
theorem fileB_ok {file : Str} {vs : Array Value} (h : fileB file vs = true) : ∃ tf, vs[2]? = some (Value.str file tf) := by
  unfold fileB at h
  split at h
  · rename_i z tf hz
    obtain rfl := of_decide_eq_true h
    exact ⟨tf, hz⟩
  · cases h
/-- the code object's file; the cell of __class__ -/
def iniB (file : Str) (K : PySem.W.Frag) (C f : Addr) (q : Str) : Bool := match K.lookup f with
  | some ⟨_, _, .func fd, _⟩ => PySem.W.codeIn K fd.code q && ((match fd.code with
    | .ref c => (match K.lookup c with
      | some ⟨_, _, .fields vs, _⟩ => fileB file vs
      | _ => false)
    | _ => false) && (noneB fd.defaults && (match fd.closure with
    | [(_, cc)] => (match K.lookup cc with
      | some ⟨_, _, .cell (some (.ref D)), _⟩ => decide (D = C)
      | _ => false)
    | _ => false)))
  | _ => false
def exB (file : Str) (K : PySem.W.Frag) (x q : Str) : Bool :=
  let C := He.ga K x
  let f := He.ma K C "__init__"
  clsB K C && (He.eqO (PySem.W.findIn K (.ref C) "__setattr__") (some (some (.builtin "object.__setattr__"))) && (decide (PySem.W.subIn K (.ref C) (.type "BaseException") = some true) && (decide (PySem.W.typeIn K (.ref C) = some (.type "type")) && (PySem.W.keepIn K (.ref C) &&
    (He.eqO (PySem.W.findIn K (.ref C) "__init__") (some (some (.ref f))) && (decide (PySem.W.typeIn K (.ref f) = some (.type "function")) && (He.eqO (PySem.W.findIn K (.ref C) "word") (some none) && (xfB K C &&
    (He.eqO (PySem.W.ks_superIn K C C "__init__") (some (some (.builtin "ValueError.__init__"))) && (decide (PySem.W.subIn K (.ref C) (.type "ValueError") = some true) && (decide (PySem.W.mroIn K C (.ref C) = some true) &&
    (He.eqO (PySem.W.nsIn K cStatics "thirdparty.any") (some none) && iniB file K C f q))))))))))))
/-- how the __init__ is written -/
structure IniTxt (i : Nat) : Prop where
  body : ∃ (m : Str) (j : Nat) (p0 p1 p2 p3 p4 p5 p6 p7 p8 p9 : Pos), defBody (iniS i) = iBody m "word" j p0 p1 p2 p3 p4 p5 p6 p7 p8 p9 ∧
    (∀ env : Env, swapsWith (.Name "word" p8) (some (.Attribute (.Name "self" p6) "word" p7)) p9.line env = pure false) ∧
    (∀ env : Env, swapsWith (.Call (.Attribute (.Call (.Name "super" p0) [] [] p1) "__init__" p2) [.Constant (.str m) j p3] [] p4) none p5.line env = pure false) ∧
    ∀ env : Env, ∃ pl : Sem Bool, eval (.Call (.Attribute (.Call (.Name "super" p0) [] [] p1) "__init__" p2) [.Constant (.str m) j p3] [] p4) env = (do
      let ov ← attributeBase (.Call (.Name "super" p0) [] [] p1) "__init__" env (eval (.Call (.Name "super" p0) [] [] p1) env)
      standAt p2.atName
      let (f, first) ← holding [ov] (getMethod ov "__init__" pl)
      callWith p4 f first (backTo p4 (starEach [.Constant (.str m) j p3] env)) [])
  par : ∃ ar, ((defArgs (iniS i)).posonlyargs ++ (defArgs (iniS i)).args).head? = some ar ∧ ar.arg = "self"
  nm : (defScope (iniS i)).names.lookup ("super" : Str) = some .globalImplicit ∧ (defScope (iniS i)).names.lookup ("__class__" : Str) = some .free ∧ (defScope (iniS i)).names.lookup ("self" : Str) = some .local ∧ (defScope (iniS i)).names.lookup ("word" : Str) = some .local
  cl : ∀ x ∈ (defScope (iniS i)).names, x.2 ≠ .cell
  kd : (defScope (iniS i)).kind = .function ∧ (defScope (iniS i)).isCoroutine = false ∧ (defScope (iniS i)).isGenerator = false
  bind : ∀ (name qual : Str) (kV doc pm : Value) (an : Option Addr) (cdv ct : Value) (cc : Addr) (us : List Value), us.length = 2 → bindArgs (PySem.W.ksFn name qual (defArgs (iniS i)) (defBody (iniS i)) (defScope (iniS i)) .none kV doc pm an cdv ct cc) ⟨us, []⟩ = pure ([("self" : Str), "word"].zip us)
theorem ini3 : IniTxt 3 := by
  refine ⟨⟨_, _, _, _, _, _, _, _, _, _, _, _, rfl, fun _ => rfl, fun _ => rfl, fun env => ⟨_, rfl⟩⟩, ⟨_, rfl, rfl⟩, ⟨rfl, rfl, rfl, rfl⟩, by decide +kernel, ⟨rfl, rfl, rfl⟩, fun _ _ _ _ _ _ _ _ _ us hl => ?_⟩
  match us, hl with
  | [_, _], _ => rfl
theorem ini4 : IniTxt 4 := by
  refine ⟨⟨_, _, _, _, _, _, _, _, _, _, _, _, rfl, fun _ => rfl, fun _ => rfl, fun env => ⟨_, rfl⟩⟩, ⟨_, rfl, rfl⟩, ⟨rfl, rfl, rfl, rfl⟩, by decide +kernel, ⟨rfl, rfl, rfl⟩, fun _ _ _ _ _ _ _ _ _ us hl => ?_⟩
  match us, hl with
  | [_, _], _ => rfl
theorem errC_of {P : Program} {w : World} {K : PySem.W.Frag} {mg : Str → Option Value} {x q : Str} {i : Nat} (it : IniTxt i) (hx : exB P.main.file K x q = true) (hv : iniW K x = iniVal q i) (gx : mg x = some (.ref (He.ga K x))) (gs : mg "super" = none)
    (htop : (P.main.scope.names.lookup ("super" : Str)).isSome = false) : ∃ fd, ∀ base : Heap, ErrC P w K mg base x (He.ga K x) (He.ma K (He.ga K x) "__init__") fd := by
  unfold exB at hx
  obtain ⟨c1, hx⟩ := He.ba hx
  obtain ⟨c2, hx⟩ := He.ba hx
  obtain ⟨c3, hx⟩ := He.ba hx
  obtain ⟨c4, hx⟩ := He.ba hx
  obtain ⟨c5, hx⟩ := He.ba hx
  obtain ⟨c6, hx⟩ := He.ba hx
  obtain ⟨c7, hx⟩ := He.ba hx
  obtain ⟨c8, hx⟩ := He.ba hx
  obtain ⟨c9, hx⟩ := He.ba hx
  obtain ⟨c10, hx⟩ := He.ba hx
  obtain ⟨c11, hx⟩ := He.ba hx
  obtain ⟨c12, hx⟩ := He.ba hx
  obtain ⟨c13, hx⟩ := He.ba hx
  have T : OexC K (He.ga K x) := ⟨clsB_ok c1, He.eqO_ok c2, of_decide_eq_true c3, of_decide_eq_true c4, c5⟩
  unfold iniB at hx
  unfold iniW at hv
  split at hx
  · rename_i oc od fd osl lk
    rw [lk] at hv
    obtain ⟨k1, hx⟩ := He.ba hx
    obtain ⟨k2, k3⟩ := He.ba hx
    obtain ⟨k4, k3⟩ := He.ba k3
    split at k2
    · rename_i cda hcode
      split at k2
      · rename_i ccl cdd vs ccs lkc
        obtain ⟨tf, hvs⟩ := fileB_ok k2
        split at k3
        · rename_i cn cc hclo
          split at k3
          · rename_i cl cld Dc csl lkcell
            obtain rfl := of_decide_eq_true k3
            obtain ⟨n1, n2, n3, n4, n5, n6, n7, n8, n9, n10, n11, n12, n13, n14, n15⟩ := fd
            have e2 : (some (n1, n2, n3, n4, n5, n6, n7.map (·.1), n15) : IniV) = iniVal q i := hv
            unfold iniVal at e2
            simp only [Option.some.injEq, Prod.mk.injEq] at e2
            obtain ⟨h1, h2, h3, h4, h5, h6, h7, h8⟩ := e2
            have hcode : n13 = .ref cda := hcode
            have hclo : n7 = [(cn, cc)] := hclo
            have k5 : n8 = .none := noneB_ok (v := n8) k4
            clear k4
            subst hclo hcode k5
            have h7 : [cn] = [("__class__" : Str)] := h7
            have h7 : cn = "__class__" := by injection h7
            subst h1 h2 h3 h4 h5 h6 h7 h8
            obtain ⟨m, j, p0, p1, p2, p3, p4, p5, p6, p7, p8, p9, hb, sw1, sw2, hev⟩ := it.body
            obtain ⟨ar, par1, par2⟩ := it.par
            obtain ⟨m1, m2, m3, m4⟩ := it.nm
            obtain ⟨d1, d2, d3⟩ := it.kd
            refine ⟨PySem.W.ksFn "__init__" n2 (defArgs (iniS i)) (defBody (iniS i)) (defScope (iniS i)) .none n9 n10 n11 n12 (.ref cda) n14 cc, fun base => ⟨gx, T, He.eqO_ok c6, of_decide_eq_true c7, He.eqO_ok c8, xfB_ok c9, ?_, .all fun us hl => it.bind _ _ _ _ _ _ _ _ _ us hl⟩⟩
            rw [hb] at lk ⊢
            exact ok_init T lk k1 lkc hvs (beq_iff_eq.mpr rfl) lkcell gs htop (He.eqO_ok c10) (of_decide_eq_true c11) (of_decide_eq_true c12) (He.eqO_ok c13) (He.eqO_ok c8) par1 par2 m1 m2 m3 m4 it.cl d1 d2 d3 sw1 sw2 hev
          · cases k3
        · cases k3
      · cases k2
    · cases k2
  · cases hx
end K23
set_option maxHeartbeats 0
/-! X2: what the top leaves, looked at by one Hook. -/
namespace K23
open PySem PySem.Spec PyProof.Rows L2
/-! ### the facts -/
def dflD : Nat → List He.Dv
  | 38 => [He.Dv.bl false]
  | _ => []
def dOf (d : Nat × Str) : He.DefD := ⟨(d.2, none), d.2, d.2, defArgs (topS d.1), defBody (topS d.1), defScope (topS d.1), dflD d.1, []⟩
def fnL : List He.DefD := defs.map dOf
def faL : List He.Fa := defs.map (fun d => He.Fa.glo d.2) ++ frees.map He.Fa.free ++
  [.str "LETTERS" "abcdefghijklmnopqrstuvwxyz", .int "LONGEST_NAME" 5, .int "MOST_POOL" (10 ^ 18), .glo "InvalidNumber", .glo "Refused", .exm "InvalidNumber" "InvalidNumber" true, .exm "Refused" "InvalidNumber" false, .exm "Refused" "Refused" true]
def tfL : List He.Defn := [("joined", none), ("_law_refused_right", none)]
def theFile : Str := PySem.Challenge.pw_asmany_k23_whole_what_more_of_a_kind_giv.main.file
def exL (K : PySem.W.Frag) : Bool := exB theFile K "InvalidNumber" "InvalidNumber.__init__" && (exB theFile K "Refused" "Refused.__init__" && decide (He.tabOf K (He.codeOf K ("joined", none)) ≠ He.tabOf K (He.codeOf K ("_law_refused_right", none))))
/-! ### the Hook -/
abbrev AlK : Type := (He.AlD × IniV × IniV) × Bool
def frK (g : Addr → Option Obj) : PySem.W.Frag := He.frT g (cStatics :: He.asD g 5)
def obsK (K : PySem.W.Frag) (g : Addr → Option Obj) : AlK := ((He.obsD faL fnL K, iniW K "InvalidNumber", iniW K "Refused"), exL K && He.tabsB g tfL K)
def valK : AlK := ((He.valD fnL, iniVal "InvalidNumber.__init__" 3, iniVal "Refused.__init__" 4), true)
structure SaysK (h : Heap) (K : PySem.W.Frag) : Prop where
  d : He.SaysD faL fnL K
  iN : iniW K "InvalidNumber" = iniVal "InvalidNumber.__init__" 3
  iR : iniW K "Refused" = iniVal "Refused.__init__" 4
  ex : exL K = true
  hd : ∀ p ∈ tfL, PySem.W.codeHdIn K (He.cT K p).1 (He.cT K p).2 = true
  out : ∀ p ∈ tfL, K.lookup (He.cT K p).2 = none
  empty : ∀ p ∈ tfL, h.get? (He.cT K p).2 = some { cls := .none, data := .fields #[] }
theorem saysK_of {h : Heap} (e : obsK (frK h.get?) h.get? = valK) : SaysK h (frK h.get?) := by
  have e1 : He.obsD faL fnL (frK h.get?) = He.valD fnL := congrArg (fun z : AlK => z.1.1) e
  have e2 : iniW (frK h.get?) "InvalidNumber" = iniVal "InvalidNumber.__init__" 3 := congrArg (fun z : AlK => z.1.2.1) e
  have e3 : iniW (frK h.get?) "Refused" = iniVal "Refused.__init__" 4 := congrArg (fun z : AlK => z.1.2.2) e
  have e4 : (exL (frK h.get?) && He.tabsB h.get? tfL (frK h.get?)) = true := congrArg (fun z : AlK => z.2) e
  obtain ⟨h1, h2⟩ := He.ba e4
  have each : ∀ p ∈ tfL, PySem.W.codeHdIn (frK h.get?) (He.cT (frK h.get?) p).1 (He.cT (frK h.get?) p).2 = true ∧ ∃ o : Obj, h.get? (He.cT (frK h.get?) p).2 = some o ∧ He.emptyTab o = true := by
    intro p hp
    obtain ⟨h3, h4⟩ := He.ba (List.all_eq_true.mp h2 p hp)
    refine ⟨h3, ?_⟩
    generalize h.get? (He.cT (frK h.get?) p).2 = r at h4 ⊢
    cases r with
    | none => cases h4
    | some o => exact ⟨o, rfl, h4⟩
  refine ⟨e1, e2, e3, h1, fun p hp => (each p hp).1, fun p hp => ?_, fun p hp => ?_⟩
  · obtain ⟨_, o, q, z⟩ := each p hp
    exact He.frT_none q z
  · obtain ⟨_, o, q, z⟩ := each p hp
    exact q.trans (congrArg some (He.emptyTab_eq z))
def hkK : PySem.W.Hook where
  α := AlK
  obs := fun s => obsK (frK s.heap.get?) s.heap.get?
  val := fun _ => valK
  says := fun _ h => ∃ K : PySem.W.Frag, K.In h ∧ SaysK h K
  of := fun _ _ e => ⟨_, He.frT_in, saysK_of e⟩
  keeps := fun _ _ _ ⟨K, hK, c⟩ k => ⟨K, PySem.W.Frag.In.keeps hK k, ⟨c.d, c.iN, c.iR, c.ex, c.hd, c.out, fun p hp => k _ _ (c.empty p hp)⟩⟩
def obK (s : PySem.W.SharedT) : AlK := obsK (frK (HandSHeadRun.getT s)) (HandSHeadRun.getT s)
theorem obK_eq (s : PySem.W.SharedT) : obK s = hkK.obs s.abs := by
  have e : HandSHeadRun.getT s = s.abs.heap.get? := funext fun a => HandSHeadRun.getT_eq s a
  unfold obK
  rw [e]
  rfl
/-! ### the run -/
abbrev R : PySem.W.OpenRow := PySem.W.OpenLaw.row PySem.Challenge.rw_asmany_k23_whole_what_more_of_a_kind_giv
abbrev qv : Program := PySem.W.view R.prog [62]
def loose1 : List Str := ["__name__", "PoolError", "InvalidPool", "InvalidNumber", "Refused", "LETTERS", "LONGEST_NAME", "MOST_POOL", "is_integer", "is_number", "is_name", "is_name_lot", "names_in", "kinds_of", "joined", "normal_times", "normal", "check_pool_of", "amounts_by_name", "checked_row", "number_of", "pieces", "target_of", "needed", "short_kinds", "endless_number"]
def loose2 : List Str := ["pieces_with_plenty", "cut_formula", "normal_cut", "formula_lacking", "formula_plenty", "sides_in", "all_sides", "side_number", "tight_sides", "_law_heap", "_law_draw", "_law_pick", "_law_names", "_law_formula", "_law_sums", "_law_ways", "_law_taken", "_law_turned", "_law_amount", "_law_number", "_law_with", "_law_lots", "_law_is_least", "_law_needed_right", "_law_cut", "_law_lots_right", "_law_idle", "_law_heard", "_law_refused_right", "_law_flat_right"]
def loose : List Str := loose1 ++ loose2
theorem run (w : World) : HandSHeadRun.RunEq R qv hkK obK 9000 loose w := by
  intro os
  kernel_rfl
end K23
/-! G1: promises that are kept where no repr is under way; calls by keywords alone. -/
namespace K23
open PySem PySem.Spec PyProof.Rows L2
structure FnG (P : Program) (w : World) (K : PySem.W.Frag) (mg : Str → Option Value) (base : Heap) (k : Nat) (f : Addr) (fd : FuncData) (ps : List Str) (sp : Sp) : Prop where
  len : ∀ vs H Q E, sp vs H Q E → vs.length = ps.length
  run : ∀ (A : Around) (outer : List Env) (s : Shared) (H : Hp) (args : Args) (us : List Value) (vs : List V) (Q : VK) (E : XK), Room k A → A.guards = some [] → Env0 P w K mg base A outer s H → BindsTo s fd args (ps.zip us) → Vals vs us → sp vs H Q E →
    codeAny (model P w) A (.call (.ref f) args) (CR CX0 outer P w H s Q E) s
section
variable {P : Program} {w : World} {K : PySem.W.Frag} {mg : Str → Option Value} {base : Heap}
theorem okG {x qual : Str} {params : Arguments} {body : List Stmt} {scope : Scope} {dvs : List V} {kws : List (Str × V)} {f : Addr} {fd : FuncData} {N ps : List Str} {k : Nat} {sp : Sp} (F : FunD K x qual params body scope dvs kws f fd) (S : FnScope N ps scope) (len : ∀ vs H Q E, sp vs H Q E → vs.length = ps.length)
    (hbody : ∀ (cdv : Value) (A : Around) (outer : List Env) (s : Shared) (H : Hp) (vs : List V) (Q : VK) (E : XK), Room k (A.deeper (envOfC qual scope s.heap.objs.size f cdv)) → (A.deeper (envOfC qual scope s.heap.objs.size f cdv)).guards = some [] → sp vs H Q E →
      ∃ t, PSs (cxOf CX0 P w K mg base N qual scope f cdv A outer s H E) body t ∧ t { nx := fun _ H' => Q .non H', rt := Q } (start N vs) H) : FnG P w K mg base (k + 1) f fd ps sp := by
  obtain ⟨oc, od, dV, kV, doc, pm, an, cdv, ct, osl, rfl, lk, hcd, _, _⟩ := F.ex
  refine ⟨len, fun A outer s H args us vs Q E hr hg e0 hb r hsp => ?_⟩
  exact LamX.run_ofS lk hcd S hr e0 hb r (len _ _ _ _ hsp) fun hr2 => hbody cdv A outer s H vs Q E hr2 hg hsp
theorem FnG.of {k : Nat} {f : Addr} {fd : FuncData} {ps : List Str} {sp : Sp} (F : FnOk P w K mg base CX0 k f fd ps sp) : FnG P w K mg base k f fd ps sp := ⟨F.len, fun A outer s H args us vs Q E hr _ e0 hb r h => F.run A outer s H args us vs Q E hr e0 hb r h⟩
end
/-- a call of such a def -/
theorem pe_g {X : Cx} {k j : Nat} {f : Addr} {fd : FuncData} {ps : List Str} {sp : Sp} {x : Str} {p pos : Pos} {e : Expr} {es : List Expr} {t : TA} (F : FnG X.prog X.w X.K X.mg X.base k f fd ps sp) (hG : X.A.guards = some []) (hr : Room j X.A) (hj : k ≤ j) (hm : X.mg x = some (.ref f)) (hk : PySem.W.keepIn X.K (.ref f) = true) (hb : Binds X.K fd ps [])
    (ha : PA X (e :: es) t) (hg : Gl X x := by rfl) (hdb : (x == ("__debug__" : Str)) = false := by decide) (he : starEach (e :: es) X.env = (false, eval e X.env) :: starEach es X.env := by rfl) (hpl : (backTo pos (starEach es X.env)).any (·.1) = false := by rfl) :
    PE X (.Call (.Name x p) (e :: es) [] pos) (tCall sp [] E0 t) := by
  constructor
  intro pins s σ H Q I h
  apply wpAny_Call_Name_kw
  apply ld_glob I hg hm _ hdb
  refine PySem.W.callWith_K I.ok.mod.kin (h₀ := X.base) hk (thn (ha.run pos pins s σ H _ I h) ?_) he hpl
  rintro us s1 ⟨vs, H1, I1, r, q⟩
  refine ⟨I1.kIn, ?_⟩
  have r2 : Vals (vs ++ []) us := by rw [List.append_nil]; exact r
  have hl : us.length = ps.length := by rw [← r2.length]; exact F.len _ _ _ _ q
  have hb2 : BindsTo s1 fd ⟨us, []⟩ (ps.zip us) := by
    have h3 := hb s1 us I1.kIn (by rw [List.append_nil]; exact hl)
    rw [List.append_nil] at h3
    exact h3
  apply wpAny_call
  refine codeAny_mono (F.run X.A X.stack s1 H1 ⟨us, []⟩ us (vs ++ []) Q E0 (hr.mono hj) hG I1.env0 hb2 r2 q) ?_
  rintro (e | (u | _ | _ | _)) s' hq
  all_goals first | exact pass0 pins σ H1 s1 e s' I1 hq | exact I1.after hq | exact False.elim hq
/-- a call that names every argument -/
theorem pe_fk {X : Cx} {k j : Nat} {f : Addr} {fd : FuncData} {ps ks : List Str} {sp : Sp} {x : Str} {p pos : Pos} {kws : List Keyword} {tk : TA} {g : List Value → List Value → List Value} {gV : List V → List V → List V} (F : FnOk X.prog X.w X.K X.mg X.base CX0 k f fd ps sp) (hr : Room j X.A) (hj : k ≤ j)
    (hm : X.mg x = some (.ref f)) (hk : PySem.W.keepIn X.K (.ref f) = true) (hb : KBinds X.K fd ps ks g gV) (hkw : PK X kws tk) (hg : Gl X x := by rfl)
    (hall : (backToKw pos (keywordEach kws X.env)).all (·.1.isSome) = true := by rfl) (hks : (backToKw pos (keywordEach kws X.env)).filterMap (·.1) = ks := by rfl) (hdb : (x == ("__debug__" : Str)) = false := by decide)
    (hpl : ((backTo pos (starEach [] X.env)).any (·.1) || (backToKw pos (keywordEach kws X.env)).any (·.1.isNone)) = false := by rfl) :
    PE X (.Call (.Name x p) [] kws pos) (tCallK sp gV E0 tNil tk) := by
  constructor
  intro pins s σ H Q I h
  apply wpAny_Call_Name_kw
  apply ld_glob I hg hm _ hdb
  refine PySem.W.callWith_KW0 (h₀ := X.base) I.ok.mod.kin hk hall (thn (hkw.run pos pins s σ H _ I h) ?_) hpl
  rintro ws s1 ⟨zs, H1, I1, rz, q⟩
  refine ⟨I1.kIn, ?_⟩
  rw [hks]
  exact run_fnk F (hr.mono hj) hb pass0 I1 .nil rz q
end K23
set_option maxHeartbeats 2000000
/-! X3: a law's end over FnG: the caller's guards are none; tables of code objects. -/
namespace K23
open PySem PySem.Spec PyProof.Rows L2 LamX
/-- an empty table -/
abbrev tab0 : Obj := { cls := .none, data := .fields #[] }
/-- the script's list -/
abbrev scrO (vs : List Value) : Obj := { cls := .type "list", data := .seq vs.toArray }
/-- what is tracked at the entry: the tables, the script if K has it not -/
def Hin (K : PySem.W.Frag) (T : List Addr) (a : Addr) (o : Obj) (xs : List V) : Hp := fun b =>
  if b ∈ T then some (.tbl #[]) else if b = a ∧ K.lookup a = none then some (.frz o (.lst xs)) else none
section
variable {K : PySem.W.Frag} {T : List Addr} {a b : Addr} {o ob : Obj} {xs : List V} {u : HO} {h : Heap}
theorem Hin_tab (m : b ∈ T) : Hin K T a o xs b = some (.tbl #[]) := if_pos m
theorem Hin_case (e : Hin K T a o xs b = some u) : (b ∈ T ∧ u = .tbl #[]) ∨ (b = a ∧ K.lookup a = none ∧ u = .frz o (.lst xs)) := by
  unfold Hin at e
  split at e
  · rename_i m
    exact .inl ⟨m, (Option.some.inj e).symm⟩
  · split at e
    · rename_i m
      exact .inr ⟨m.1, m.2, (Option.some.inj e).symm⟩
    · cases e
theorem Hin_none (n1 : b ∉ T) (n2 : ¬ (b = a ∧ K.lookup a = none)) : Hin K T a o xs b = none := (if_neg n1).trans (if_neg n2)
/-- all but the script and the tables stands in the fixed part -/
theorem Hin_base (hT : ∀ b ∈ T, h.get? b = some tab0) (hS : h.get? a = some o) (e : h.get? b = some ob) (d1 : ob.data ≠ .fields #[]) (d2 : ob.data ≠ o.data) : (hidT h (Hin K T a o xs)).get? b = some ob := by
  refine hidT_get e (Hin_none (fun m => d1 ?_) fun m => d2 ?_)
  · rw [hT b m] at e
    rw [← Option.some.inj e]
  · rw [m.1, hS] at e
    rw [← Option.some.inj e]
theorem Hin_ns {vs : List Value} {m : Str → Option Value} (hT : ∀ b ∈ T, h.get? b = some tab0) (hS : h.get? a = some (scrO vs)) (N : h.Ns b m) : (hidT h (Hin K T a (scrO vs) xs)).Ns b m := by
  obtain ⟨od, es, ep, e, d, r⟩ := N
  refine ⟨od, es, ep, Hin_base hT hS e ?_ ?_, d, r⟩ <;> rw [d] <;> intro z <;> cases z
end
/-- from the caller: a promise without guards, kept at the entry -/
theorem end_g {P : Program} {w : World} {K : PySem.W.Frag} {mg mb : Str → Option Value} {k : Nat} {fa a : Addr} {cs : List (Addr × Addr)} {fd : FuncData} {x : Str} {sp : Sp} {s1 : Shared} {vs : List Value} {ns : List Int}
    (kin : K.In s1.heap) (nsG : s1.heap.Ns mainGlobals mg) (nsB : s1.heap.Ns builtinsNs mb) (bB : ∀ y : Str, y ≠ "__name__" → mb y = bootBuiltins y) (lim : s1.heap.NoLimit) (gn : s1.gens = #[])
    (tE : ∀ c ∈ cs, s1.heap.get? c.2 = some tab0) (tK : ∀ c ∈ cs, K.lookup c.2 = none) (tC : ∀ c ∈ cs, PySem.W.CodeHd s1.heap c.1 c.2)
    (bM : ∃ (bm : Addr) (ob : Obj), mg "__builtins__" = some (.ref bm) ∧ bm ≠ builtinsNs ∧ s1.heap.get? bm = some ob ∧ ob.cls = .type "module" ∧ ob.dict = some builtinsNs ∧ ob.data = .plain)
    (sE : s1.heap.get? a = some (scrO vs)) (hI : IntsAre vs ns) (few : ns.length ≤ sizeLine) (room : Room k callerA)
    (F : ∀ base : Heap, K.In base → base.Ns mainGlobals mg → (∀ c ∈ cs, TabB base mg c.1 c.2) → FnG P w K mg base k fa fd [x] sp) (bnd : ∀ (s : Shared) (u : Value), BindsTo s fd ⟨[u], []⟩ [(x, u)])
    (hsp : ∀ H : Hp, (∀ c ∈ cs, H c.2 = some (.tbl #[])) → SqL K H a (ns.map V.int) → sp [.ref a] H (fun v _ => v = .bl true) fun _ _ _ => False) :
    codeAny (model P w) callerA (.call (.ref fa) ⟨[.ref a], []⟩) (fun r s2 => r = .ok (.ret (.bool true)) ∧ OldK s1.heap s2.heap ∧ s2.os = s1.os ∧ AllBare s2.gens) s1 := by
  let T : List Addr := cs.map Prod.snd
  let xs : List V := ns.map V.int
  have hv : Vals xs vs := vals_ints hI
  have lx : xs.length ≤ sizeLine := by
    show (ns.map V.int).length ≤ sizeLine
    rw [List.length_map]
    exact few
  have hT : ∀ b ∈ T, s1.heap.get? b = some tab0 := by
    intro b m
    obtain ⟨c, hc, rfl⟩ := List.mem_map.mp m
    exact tE c hc
  have mT : ∀ c ∈ cs, c.2 ∈ T := fun c hc => List.mem_map_of_mem hc
  have aT : a ∉ T := fun m => by
    have e := sE.symm.trans (hT a m)
    cases e
  have hok : HOk P w (Hin K T a (scrO vs) xs) s1.heap := by
    intro b u e
    rcases Hin_case e with ⟨m, rfl⟩ | ⟨rfl, _, rfl⟩
    · exact hT b m
    · exact ⟨sE, lx, vs, _, hv, sE⟩
  have bK : K.In (hidT s1.heap (Hin K T a (scrO vs) xs)) := by
    intro b ob e
    refine hidT_get (kin b ob e) (Hin_none (fun m => ?_) fun m => ?_)
    · obtain ⟨c, hc, rfl⟩ := List.mem_map.mp m
      rw [tK c hc] at e
      cases e
    · rw [m.1, m.2] at e
      cases e
  have bG : (hidT s1.heap (Hin K T a (scrO vs) xs)).Ns mainGlobals mg := Hin_ns hT sE nsG
  have bMod : L2.Mod K mg (hidT s1.heap (Hin K T a (scrO vs) xs)) := by
    obtain ⟨mc, l1, l2⟩ := lim
    exact ⟨bK, bG, ⟨mb, Hin_ns hT sE nsB, bB⟩, ⟨mc, Hin_ns hT sE l1, l2⟩⟩
  have bTab : ∀ c ∈ cs, TabB (hidT s1.heap (Hin K T a (scrO vs) xs)) mg c.1 c.2 := by
    intro c hc
    refine ⟨?_, ?_, fun z => ?_⟩
    · obtain ⟨oc, us, f1, f2, f3, f4, f5, f6, f7, e, c1, c2, c3, more⟩ := tC c hc
      refine ⟨oc, us, f1, f2, f3, f4, f5, f6, f7, Hin_base hT sE e (fun z => ?_) (fun z => ?_), c1, c2, c3, more⟩
      · rw [c2] at z
        injection z with z
        rw [z] at c3
        cases c3
      · rw [c2] at z
        cases z
    · obtain ⟨bm, ob, b1, b2, b3, b4, b5, b6⟩ := bM
      refine ⟨bm, ob, b1, b2, fun z => ?_, fun z => ?_, Hin_base hT sE b3 (fun z => ?_) (fun z => ?_), b4, b5, b6⟩
      · obtain ⟨od, es, ep, e, d, _⟩ := nsG
        rw [← z, b3] at e
        rw [← Option.some.inj e, b6] at d
        cases d
      · rw [z, tE c hc] at b3
        rw [← Option.some.inj b3] at b6
        cases b6
      · rw [b6] at z
        cases z
      · rw [b6] at z
        cases z
    · obtain ⟨od, es, ep, e, d, _⟩ := nsG
      rw [z, tE c hc] at e
      rw [← Option.some.inj e] at d
      cases d
  have env : Env0 P w K mg (hidT s1.heap (Hin K T a (scrO vs) xs)) callerA [] s1 (Hin K T a (scrO vs) xs) :=
    ⟨rfl, bMod, fun _ _ e => of_hidT e, Nat.le_of_eq (hidT_size _ _), trivial, (fun b m => by cases m), hok, .of_eq gn⟩
  have sq : SqL K (Hin K T a (scrO vs) xs) a xs := by
    cases q : K.lookup a with
    | none => exact .inl (.inr ⟨scrO vs, (if_neg aT).trans (if_pos ⟨rfl, q⟩)⟩)
    | some ob =>
      have e := (kin a ob q).symm.trans sE
      obtain rfl := Option.some.inj e
      refine .inr ⟨scrO vs, vs.toArray, _, q, rfl, rfl, rfl, ?_, hv⟩
      rw [List.size_toArray, ← hv.length]
      exact lx
  refine codeAny_mono ((F _ bK bG bTab).run callerA [] s1 _ ⟨[.ref a], []⟩ [.ref a] [.ref a] _ _ room rfl env (bnd s1 (.ref a)) (.cons rfl .nil) (hsp _ (fun c hc => Hin_tab (mT c hc)) sq)) fun r s2 hr => ?_
  match r, hr with
  | .error _, z => exact z.elim
  | .ok .next, z => exact z.elim
  | .ok .brk, z => exact z.elim
  | .ok .cont, z => exact z.elim
  | .ok (.ret v), ⟨v', H', os, bare, un, hok2, rv, q⟩ =>
    have q : v' = .bl true := q
    subst q
    obtain rfl : v = Value.bool true := rv
    have tabs : ∀ b ∈ T, ∃ more : Array Value, s2.heap.get? b = some { cls := .none, data := .fields more } := by
      intro b m
      obtain ⟨more, e⟩ := un.tbls b #[] (Hin_tab m)
      exact ⟨_, hok2 b _ e⟩
    have same : ∀ b ob, b ∉ T → s1.heap.get? b = some ob → s2.heap.get? b = some ob := by
      intro b ob m e
      cases q : Hin K T a (scrO vs) xs b with
      | none => exact un.keep b ob e q (fun z => by cases z) (fun z => by cases z)
      | some u =>
        rcases Hin_case q with ⟨z, _⟩ | ⟨rfl, _, rfl⟩
        · exact absurd z m
        · obtain ⟨e2, _⟩ := hok2 b _ (un.frzs b _ _ q)
          rw [e2, ← e]
          exact sE.symm
    refine ⟨rfl, ⟨fun b ob e => ?_, fun b ob e => ?_⟩, os, bare⟩
    · by_cases m : b ∈ T
      · obtain ⟨c, hc, rfl⟩ := List.mem_map.mp m
        obtain ⟨more, e2⟩ := tabs c.2 m
        obtain rfl := Option.some.inj (e.symm.trans (tE c hc))
        exact .inr (.inl ⟨((tC c hc).tab (tE c hc)).isCodeTable, rfl, #[], more, rfl, by rw [Array.empty_append]; exact e2⟩)
      · exact .inl (same b ob m e)
    · by_cases m : b ∈ T
      · obtain ⟨more, e2⟩ := tabs b m
        exact ⟨_, e2⟩
      · exact ⟨ob, same b ob m e⟩
/-- a law's promise at the heap that the top leaves -/
structure EndAt (P : Program) (w : World) (K : PySem.W.Frag) (k n : Nat) (x : Str) (mg : Str → Option Value) (fa : Addr) (h : Heap) (fd : FuncData) (cs : List (Addr × Addr)) (sp : Sp) : Prop where
  kin : K.In h
  tE : ∀ c ∈ cs, h.get? c.2 = some tab0
  tK : ∀ c ∈ cs, K.lookup c.2 = none
  tC : ∀ c ∈ cs, PySem.W.CodeHd h c.1 c.2
  bnd : ∀ (s : Shared) (u : Value), BindsTo s fd ⟨[u], []⟩ [(x, u)]
  says : ∀ (H : Hp) (a : Addr) (ns : List Int), ns.length ≤ n → (∀ c ∈ cs, H c.2 = some (.tbl #[])) → SqL K H a (ns.map V.int) → sp [.ref a] H (fun v _ => v = .bl true) fun _ _ _ => False
  F : ∀ base : Heap, K.In base → base.Ns mainGlobals mg → (∀ c ∈ cs, TabB base mg c.1 c.2) → FnG P w K mg base k fa fd [x] sp
theorem walk_g {l : PySem.W.OpenLaw} {n k : Nat} {q : Program} {loose : List Str} {XP : (Str → Option Value) → Heap → Prop} {YP : World → Heap → Prop} {d : DefRec} {x : Str}
    (hn : l.most = some n) (hn2 : n ≤ sizeLine) (hdf : d.params.defaults = []) (hr : Room k callerA)
    (E : ∀ (w : World) (mg : Str → Option Value) (fa : Addr) (h : Heap), YP w h → h.Ns mainGlobals mg → mg d.name = some (.ref fa) → ∃ K fd cs sp, EndAt l.prog w K k n x mg fa h fd cs sp) :
    PySem.W.WalkO q loose XP YP l.row.toRowW d [] (fun f us => PySem.call f us) := by
  refine Att.attach_callB hn hdf ?_
  intro w s0 s1 mg mb fa o pm cd doc a vs ns G Y ho hd hcd hmg sE hI few bits gn
  obtain ⟨K, fd, cs, sp, e⟩ := E w mg fa _ Y G.T.g hmg
  exact end_g e.kin G.T.g G.T.b G.T.builtins G.T.nolimit gn e.tE e.tK e.tC G.T.bmain sE hI (Nat.le_trans few hn2) hr e.F e.bnd fun H hH hS => e.says H a ns few hH hS
end K23
set_option maxHeartbeats 2000000
/-! E3: try with several clauses 'except X as n'; a def that hears what a lambda raises. -/
namespace K23
open PySem PySem.Spec PyProof.Rows L2
/-- what the clauses wish, one after the other; slot i is the name's -/
def wAsL (K : PySem.W.Frag) (m i : Nat) (WO : WX) (D : Ends) : List (Value × (Addr → Value → Option Addr → TS)) → WX
  | [] => WO
  | (c, t) :: r => fun cls d σ H => ∃ b, PySem.W.exmOne K cls c = some b ∧
    (b = true → ∀ a, H a = none → σ.length = m → t a cls d { nx := fun σ' H' => D.nx (σ'.set i none) H', rt := D.rt, bk := fun σ' H' => D.bk (σ'.set i none) H', ct := fun σ' H' => D.ct (σ'.set i none) H' } (σ.set i (some (.ref a))) H) ∧
    (b = false → wAsL K m i WO D r cls d σ H)
inductive AsHds (X : Cx) (n : Str) : List ExceptHandler → List (Value × (Addr → Value → Option Addr → TS)) → Prop
  | nil : AsHds X n [] []
  | cons {x : Str} {c : Value} {t : Addr → Value → Option Addr → TS} {s0 : Stmt} {rest : List Stmt} {p1 p2 : Pos} {hds : List ExceptHandler} {l : List (Value × (Addr → Value → Option Addr → TS))} (nm : Names X x c)
      (su : ∀ (a : Addr) (oe : Obj) (cls : Value) (d : Option Addr) (pn : List (Addr × Obj)), Zc cls d oe → (∃ vs, oe.data = .fields vs) → PSs (X.suite a ((a, oe) :: pn)) (s0 :: rest) (t a cls d)) (more : AsHds X n hds l) :
      AsHds X n (.ExceptHandler (some (.Name x p1)) (some n) (s0 :: rest) p2 :: hds) ((c, t) :: l)
section
variable {X : Cx} {n : Str} {i : Nat} {body : List Stmt} {h1 : ExceptHandler} {hds : List ExceptHandler} {l : List (Value × (Addr → Value → Option Addr → TS))} {pos : Pos} {tb : WX → TS} {WO : WX}
theorem ps_try_asL (stk : X.stack = X.env :: X.outer) (frm : X.env.frame = some X.env.locals) (nod : X.N.Nodup) (at_i : X.N[i]? = some n) (kd : X.env.kindOf n = some .local) (out : Takes X WO)
    (hb : ∀ (W : WX) (pn : List (Addr × Obj)) (xe : Value → Shared → Prop), Takes (X.tr pn xe) W → PassesOwn (model X.prog X.w) X.A X.env xe → PSs (X.tr pn xe) body (tb W))
    (hh : AsHds X n (h1 :: hds) l) : PS X (.Try body (h1 :: hds) [] [] pos) (fun D σ H => tb (wAsL X.K X.N.length i WO D l) D σ H) := by
  constructor
  intro pins s σ H D I0 wish
  have ok := I0.ok
  have frs2 : X.A.frames = some (X.env :: X.outer) := ok.frames.trans (congrArg some stk)
  apply wpAny_Try_except
  refine wpAny_mono ((hb (wAsL X.K X.N.length i WO D l) (X.pn ++ pins)
    (fun e t1 => wpAny (model X.prog X.w) X.A (noteFrame e X.env) (fun _ t2 => wpAny (model X.prog X.w) X.A (setFlight e none)
      (fun _ t3 => wpAny (model X.prog X.w) X.A (handleBy e X.env (h1 :: hds)) (SP X pins D) X.xe t3) X.xe t2) X.xe t1) ?_ PassesOwn.looking).run [] s σ H D (I0.toTry _) wish) ?_ (fun _ _ he => he)
  · rintro u s' ⟨a, B, sI, pins', σ', H', cls, d, rfl, Jt, grd, upto, sky, fresh, hos, hbare, w⟩
    have J : Inv X pins σ' H' sI := Jt.ofTry ok
    have sky2 : Sky B (X.env :: X.outer) a (Zc cls d) X.env.locals s'.heap := stk ▸ sky
    show wpAny (model X.prog X.w) X.A (noteFrame (.ref a) X.env) _ _ s'
    refine Sky.land Zc.steady frs2 frm sky2 fun hB fly3 upto3 => ?_
    have J3 : Inv X pins σ' H' { s' with heap := hB } := J.landed grd fly3.1 (upto.trans upto3) hos hbare
    obtain ⟨ob3, vs3, at3, z3, d3⟩ := fly3.there
    have offStack : a ∉ frs (X.env :: X.outer) := fun hm => by
      obtain ⟨_, o', e', nf⟩ := fly3.2.2.1.mem hm
      rw [at3] at e'
      cases e'
      exact nf _ d3
    have offL : a ≠ X.env.locals := fun z => offStack (List.mem_filterMap.mpr ⟨X.env, List.mem_cons_self, by rw [frm, z]⟩)
    have offF : a ∉ X.fs := fun hm => by
      obtain ⟨e, he, z⟩ := List.mem_filterMap.mp hm
      exact offStack (List.mem_filterMap.mpr ⟨e, List.mem_cons_of_mem _ he, z⟩)
    have S3 := J3.suite at3 d3 fresh offL offF
    have walk : ∀ {hs : List ExceptHandler} {ls : List (Value × (Addr → Value → Option Addr → TS))}, AsHds X n hs ls → wAsL X.K X.N.length i WO D ls cls d σ' H' →
        wpAny (model X.prog X.w) X.A (handleBy (.ref a) X.env hs) (SP X pins D) X.xe { s' with heap := hB } := by
      intro hs ls hk
      induction hk with
      | nil =>
        intro w2
        refine wpAny_handleBy_nil ?_
        obtain ⟨_, _, _, oe, vs, Tb, oT, ts, he, _, hdt, hv1, _⟩ := id fly3
        unfold PySem.passOn
        refine wpAny_bind (wpAny_field he hdt hv1 ?_)
        rw [if_neg (show (Value.ref Tb == Value.none) ≠ true from by simp)]
        have done : wpAny (model X.prog X.w) X.A (setFlight (.ref a) X.env.frame) (fun _ t4 => wpAny (model X.prog X.w) X.A (throw (.ref a) : Sem Flow) (SP X pins D) X.xe t4) X.xe { s' with heap := hB } := by
          rw [frm]
          refine HandSPX.setFlight_upZ fly3 fun h4 held upto4 => wpAny_throw (out _ _ ?_)
          exact ⟨a, B, sI, pins, σ', H', cls, d, rfl, J, grd, (upto.trans upto3).trans upto4, .inr (.inr (stk ▸ held)), fresh, hos, hbare, w2⟩
        first
          | exact wpAny_bind (wpAny_pure (wpAny_bind done))
          | exact wpAny_bind done
      | @cons x c t s0 rest p1 p2 hs2 l2 nm su more ih =>
        rintro ⟨b, hb1, yes, no⟩
        refine wpAny_handleBy_cons (codeAny_handlers_test ?_) (by intro q; cases q)
        have LT : PySem.W.Looks (model X.prog X.w) hB (typeOf (.ref a)) cls := fun _ _ _ _ keep q => wpAny_typeOf_ref (keep _ _ at3) (by rw [z3.1]; exact q)
        have LM := PySem.W.exm_one (M := model X.prog X.w) (J3.kIn) LT hb1
        have named : ∀ {Q : Value → Shared → Prop} {E : Value → Shared → Prop}, Q c { s' with heap := hB } → wpAny (model X.prog X.w) (X.A.mark (some (.ref a))) (eval (.Name x p1) X.env) Q E { s' with heap := hB } := by
          intro Q E q
          obtain ⟨hg, hdbg, hm | ⟨hm, hv, hnn⟩⟩ := nm
          · exact ld_glob (X := X.suite a ((a, ob3) :: (X.pn ++ pins))) S3 hg hm q hdbg
          · exact ld_blt (X := X.suite a ((a, ob3) :: (X.pn ++ pins))) S3 hg hm hv q hnn hdbg
        refine named (LM.here ?_)
        cases b with
        | false =>
          show wpAny _ X.A (handleBy (.ref a) X.env hs2) _ _ _
          exact ih (no rfl)
        | true =>
          refine codeAny_handlers_suite_as ?_
          refine HandSPX.lands_againZ fly3 fun hC fly4 upto4 => ?_
          have J4 : Inv X pins σ' H' { s' with heap := hC } := J.landed grd fly4.1 ((upto.trans upto3).trans upto4) hos hbare
          obtain ⟨ob4, vs4, at4, z4, d4⟩ := fly4.there
          have S4 := J4.suite at4 d4 fresh offL offF
          refine store_ok (X := X.suite a ((a, ob4) :: (X.pn ++ pins))) (v := .ref a) S4 nod at_i (.inl kd) rfl (fun s5 S5 => ?_) (.inr kd)
          refine wpAny_mono ((su a ob4 cls d (X.pn ++ pins) z4 ⟨_, d4⟩).run [] s5 _ H' _ S5 (yes rfl a fresh J.len)) ?_ (fun _ _ z => False.elim z)
          intro f s6 post
          have fin : ∀ {σ6 : L2.St} {H6 : Hp} {Q : Shared → Prop}, Inv (X.suite a ((a, ob4) :: (X.pn ++ pins))) [] σ6 H6 s6 → (∀ s7, Inv X pins (σ6.set i none) H6 s7 → Q s7) →
              wpAny (model X.prog X.w) X.A (do bindName X.env n .none; unbindBehindTheSuite X.env n p2) (fun _ s7 => Q s7) X.xe s6 := fun S6 hq => gone_ok (S6.unsuite ok) nod at_i kd hq
          cases f with
          | ret u =>
            obtain ⟨v6, σ6, H6, S6, r6, q6⟩ := post
            exact fin S6 fun s7 J7 => ⟨_, _, _, J7, r6, q6⟩
          | next =>
            obtain ⟨σ6, H6, S6, q6⟩ := post
            exact fin S6 fun s7 J7 => ⟨_, _, J7, q6⟩
          | brk =>
            obtain ⟨σ6, H6, S6, q6⟩ := post
            exact fin S6 fun s7 J7 => ⟨_, _, J7, q6⟩
          | cont =>
            obtain ⟨σ6, H6, S6, q6⟩ := post
            exact fin S6 fun s7 J7 => ⟨_, _, J7, q6⟩
    exact walk hh w
  · intro f s1 post
    cases f with
    | ret u =>
      obtain ⟨v, σ', H', J', r, q⟩ := post
      exact ⟨v, σ', H', J'.ofTry ok, r, q⟩
    | next =>
      obtain ⟨σ', H', J', q⟩ := post
      exact wpAny_execs_nil ⟨σ', H', J'.ofTry ok, q⟩
    | brk =>
      obtain ⟨σ', H', J', q⟩ := post
      exact ⟨σ', H', J'.ofTry ok, q⟩
    | cont =>
      obtain ⟨σ', H', J', q⟩ := post
      exact ⟨σ', H', J'.ofTry ok, q⟩
end
end K23
/-! W10: needed, pieces_with_plenty (asked rightly), all_sides, tight_sides. -/
namespace K23
open PySem PySem.Spec PyProof.Rows L2
theorem dpa_perm {K : PySem.W.Frag} {H : Hp} {ys xs : List V} (p : ys.Perm xs) : ∀ {ds : List PyData}, DpAll K H xs ds → ∃ es : List PyData, es.Perm ds ∧ DpAll K H ys es := by
  induction p with
  | nil => intro ds h; exact ⟨ds, .refl _, h⟩
  | cons x _ ih =>
    intro ds h
    cases h with
    | cons h1 h2 =>
      obtain ⟨es, e1, e2⟩ := ih h2
      exact ⟨_ :: es, e1.cons _, .cons h1 e2⟩
  | swap x y l =>
    intro ds h
    cases h with
    | cons h1 h2 =>
      cases h2 with
      | cons h3 h4 => exact ⟨_ :: _ :: _, .swap _ _ _, .cons h3 (.cons h1 h4)⟩
  | trans _ _ i1 i2 =>
    intro ds h
    obtain ⟨es, e1, e2⟩ := i2 h
    obtain ⟨fs, f1, f2⟩ := i1 e2
    exact ⟨fs, f1.trans e1, f2⟩
/-- permuted data of a map is the map of a permuted list -/
theorem perm_map {α β : Type} {F : α → β} {es : List β} : ∀ {as : List α}, es.Perm (as.map F) → ∃ bs : List α, bs.Perm as ∧ es = bs.map F := by
  intro as h
  generalize hds : as.map F = ds at h
  induction h generalizing as with
  | nil =>
    rw [List.map_eq_nil_iff] at hds
    exact ⟨[], by rw [hds], rfl⟩
  | cons x _ ih =>
    obtain ⟨a, r, rfl, rfl, h2⟩ := List.map_eq_cons_iff.mp hds
    obtain ⟨bs, b1, b2⟩ := ih h2
    exact ⟨a :: bs, b1.cons _, by rw [b2]; rfl⟩
  | swap x y l =>
    obtain ⟨a, r, rfl, rfl, h2⟩ := List.map_eq_cons_iff.mp hds
    obtain ⟨b, t, rfl, rfl, rfl⟩ := List.map_eq_cons_iff.mp h2
    exact ⟨b :: a :: t, .swap _ _ _, rfl⟩
  | trans _ _ i1 i2 =>
    obtain ⟨bs, b1, b2⟩ := i2 hds
    obtain ⟨cs, c1, c2⟩ := i1 b2.symm
    exact ⟨cs, c1.trans b1, c2⟩
section
variable {T : Tl} {P : Program} {w : World} {K : PySem.W.Frag} {mg : Str → Option Value} {base : Heap} {A : Nat → Addr} {D : Nat → FuncData}
/-! ### needed -/
def need (ρ : Str → Int) (s : Str) (f : Fm Str) (m : Int) : Option Int := (target ρ s f m).map fun t => if 0 < t then t else 0
def spNeed (T : Tl) (K : PySem.W.Frag) : Sp := fun vs H Q _ => ∃ (v : V) (f : Fm Str) (a : Addr) (ρ : Str → Int) (s : Str) (m : Int), vs = [v, .ref a, .str s, .int m] ∧ Dp K H v (enc f) ∧ FmOk f ∧ depth f < 24 ∧ PoolAt K H a f.names ρ ∧ s ∈ f.names ∧ 0 ≤ m ∧
  ∀ H', Ex T H H' → Q (oV (need ρ s f m)) H'
theorem ok_needed (U : Txt K mg A D) : FnOk P w K mg base CX0 49 (A 26) (D 26) ["formula", "pool", "kind", "many"] (spNeed T K) := by
  have G_checked_row : FnOk P w K mg base CX0 27 (A 22) (D 22) ["formula", "pool"] (spAmt T K) := ok_checked_row U
  have G_kinds_of : FnOk P w K mg base CX0 25 (A 15) (D 15) ["formula"] (spKinds T K) := ok_kinds_of U
  have G_is_number : FnOk P w K mg base CX0 2 (A 10) (D 10) ["value"] (spNbr K) := ok_is_number U
  have G_target_of : FnOk P w K mg base CX0 48 (A 25) (D 25) ["formula", "row", "name", "many"] (spTgt T K 24) := ok_target_of U 24
  refine (F_needed U).ok sc_needed (fun vs H Q E h => by obtain ⟨_, _, _, _, _, _, rfl, _⟩ := h; rfl) (fun cdv A' outer s H vs Q E hr h => ?_)
  obtain ⟨v, f, a, ρ, nm, m, rfl, hv, hok, hdep, hp, hnm, hm, q⟩ := h
  refine ⟨_, PSs.nox (pss_cons
      (ps_set (i := 4) sc_needed.nd rfl (.inl rfl) (pe_f G_checked_row hr (by omega) (g_checked_row U) (F_checked_row U).kp (b_checked_row U) (pa_cons (pv 0) (pa_cons (pv 1) pa_nil))))
      (pss_cons
      (ps_if (pt_cmpR (ko_notIn K) (pv 2) (pe_f G_kinds_of hr (by omega) (g_kinds_of U) (F_kinds_of U).kp (b_kinds_of U) (pa_cons (pv 0) pa_nil)) rfl)
       (pss_one
       ps_never)
       pss_nil)
      (pss_cons
      (ps_if (pt_not (pt_val (pe_f G_is_number hr (by omega) (g_is_number U) (F_is_number U).kp (b_is_number U) (pa_cons (pv 3) pa_nil))))
       (pss_one
       ps_never)
       pss_nil)
      (pss_cons
      (ps_set (i := 5) sc_needed.nd rfl (.inl rfl) (pe_f G_target_of hr (by omega) (g_target_of U) (F_target_of U).kp (b_target_of U) (pa_cons (pv 0) (pa_cons (pv 4) (pa_cons (pv 2) (pa_cons (pv 3) pa_nil))))))
      (pss_one
      (ps_ret (pe_ifExp (pt_cmpR op_isN (pv 5) pe_non (nomark _)) pe_non (pe_callB (call_max2 rfl) (by rfl) (z_max U) boot_max (pa_cons pe_int (pa_cons (pv 5) pa_nil)))))))))), ?_⟩
  refine ⟨_, rfl, _, rfl, v, f, a, ρ, rfl, hv, hok, hdep, hp, fun H1 d f1 e1 h1 => ?_⟩
  refine ⟨_, rfl, _, rfl, v, f, rfl, e1.dp hv, hok, hdep, fun H2 p f2 e2 h2 => ⟨p, _, rfl, .inr (.inl (.inl h2)), rfl, flat_strs _, _, rfl, ?_⟩⟩
  rw [in_strs, if_pos rfl, decide_eq_true (mem_sortN.mpr hnm)]
  refine ⟨_, rfl, .int m, "int", rfl, .int m, _, rfl, ?_⟩
  rw [show numB (.int m) = true from decide_eq_true hm]
  have e12 := e1.trans e2
  refine ⟨_, rfl, _, rfl, _, rfl, _, rfl, v, f, d, ρ, nm, m, rfl, e12.dp hv, hok, hdep, Nat.le_refl _, (h1.ex e2).on fun _ => id, hnm, fun H3 e3 => ⟨_, rfl, rfl, _, rfl, ?_⟩⟩
  have hq := q H3 (e12.trans e3)
  unfold need at hq
  cases ht : target ρ nm f m with
  | none => rw [ht] at hq; exact hq
  | some t =>
    rw [ht] at hq
    exact ⟨_, rfl, _, t, rfl, hq⟩
/-! ### pieces_with_plenty -/
/-- a lot that is rightly asked about -/
structure LotOk (L ns : List Str) : Prop where
  so : L = sortN (uniq L)
  sub : ∀ s ∈ L, s ∈ ns
def spPlenty (T : Tl) (K : PySem.W.Frag) : Sp := fun vs H Q _ => ∃ (v : V) (f : Fm Str) (a l : Addr) (ρ : Str → Int) (L : List Str), vs = [v, .ref a, .ref l] ∧ Dp K H v (enc f) ∧ FmOk f ∧ depth f < 24 ∧ PoolAt K H a f.names ρ ∧ SqT K H l (L.map V.str) ∧ L.length < 64 ∧ LotOk L f.names ∧
  ∀ H', Ex T H H' → Q (oV (endless ρ L f)) H'
theorem lotB_names {L : List Str} (h : ∀ s ∈ L, IsNm s) (so : L = sortN (uniq L)) : lotB (L.map V.str) = true := by
  unfold lotB
  rw [strsOf_map, decide_eq_true so, Bool.and_true, List.all_map, List.all_eq_true]
  exact fun s hs => decide_eq_true (h s hs)
theorem kd_strs {H : Hp} {L : List Str} (h : ∀ s ∈ L, IsNm s) : ∀ y ∈ L.map V.str, ∃ tn, Kd K H y tn := fun y hy => by
  obtain ⟨s, hs, rfl⟩ := List.mem_map.mp hy
  exact ⟨_, .str s (by have := (h s hs).2.1; omega)⟩
theorem ok_pieces_with_plenty (U : Txt K mg A D) : FnOk P w K mg base CX0 28 (A 29) (D 29) ["formula", "pool", "lot"] (spPlenty T K) := by
  have G_checked_row : FnOk P w K mg base CX0 27 (A 22) (D 22) ["formula", "pool"] (spAmt T K) := ok_checked_row U
  have G_is_name_lot : FnOk P w K mg base CX0 2 (A 12) (D 12) ["value"] (spLot T K) := ok_is_name_lot U
  have G_endless_number : FnOk P w K mg base CX0 24 (A 28) (D 28) ["formula", "row", "lot"] (spEnd T K 24) := ok_endless_number U 24
  refine (F_pieces_with_plenty U).ok sc_pieces_with_plenty (fun vs H Q E h => by obtain ⟨_, _, _, _, _, _, rfl, _⟩ := h; rfl) (fun cdv A' outer s H vs Q E hr h => ?_)
  obtain ⟨v, f, a, l, ρ, L, rfl, hv, hok, hdep, hp, hl, hlen, hL, q⟩ := h
  refine ⟨_, PSs.nox (pss_cons
      (ps_set (i := 3) sc_pieces_with_plenty.nd rfl (.inr rfl) (pe_f G_checked_row hr (by omega) (g_checked_row U) (F_checked_row U).kp (b_checked_row U) (pa_cons (pv 0) (pa_cons (pv 1) pa_nil))))
      (pss_cons
      (ps_if (PW.pt (pw_or (pt_not (pt_val (pe_f G_is_name_lot hr (by omega) (g_is_name_lot U) (F_is_name_lot U).kp (b_is_name_lot U) (pa_cons (pv 2) pa_nil)))) (pw_or1 (pt_not (pt_val (pe_callB (kc_all K) (by rfl) (z_all U) boot_all (pa_cons (pe_lc (g := gName 4) (tt := tYes) rfl sc_pieces_with_plenty.nd (ki_tup K (pv 2)) (blkOk_by (N := N_pieces_with_plenty) (own := [("name", 4)]) (by kernel_rfl)) (fun _ _ _ _ _ => (pg_name (i := 4) sc_pieces_with_plenty.nd rfl (.inl rfl))) (fun _ _ _ _ _ => pts_nil) (fun _ _ _ _ _ => (pe_cmp (pc_din (hu_of hr) (pv 4) (pv 3))))) pa_nil)))))))
       (pss_one
       ps_never)
       pss_nil)
      (pss_one
      (ps_ret (pe_f G_endless_number hr (by omega) (g_endless_number U) (F_endless_number U).kp (b_endless_number U) (pa_cons (pv 0) (pa_cons (pv 3) (pa_cons (pv 2) pa_nil)))))))), ?_⟩
  have hnm : ∀ s ∈ L, IsNm s := fun s hs => hok.nm s (hL.sub s hs)
  refine ⟨_, rfl, _, rfl, v, f, a, ρ, rfl, hv, hok, hdep, hp, fun H1 d f1 e1 h1 => ?_⟩
  refine ⟨_, rfl, .ref l, rfl, .inl ⟨l, _, rfl, e1.st hl, by rw [List.length_map]; exact hlen, kd_strs hnm, fun H2 e2 => ⟨_, rfl, ?_⟩⟩⟩
  rw [lotB_names hnm hL.so]
  have e12 := e1.trans e2
  refine ⟨_, rfl, l, rfl, ⟨_, e12.st hl⟩, fun D hD => ?_⟩
  refine map_tup (T := T) (e := PyData.str) (as := L) (e12.st hl) (dpa_of_strs _) (fun s => some (.bool true)) (by omega) hD ?_ ?_
  · intro s0 x H' E N hs e hx _ hE
    have := hx.at_str
    subst this
    obtain ⟨kvs, k1, k2⟩ := h1.ex (e2.trans e)
    refine ⟨rfl, _, rfl, _, rfl, d, _, rfl, DGet.k (k := .inr s0) k1, ?_⟩
    rw [k2]
    show E (.bl (if s0 ∈ f.names then some (V.int (ρ s0)) else none).isSome) H'
    rw [if_pos (hL.sub s0 hs)]
    exact hE _ rfl _ H' (Ex.refl _) rfl (.bl true)
  · intro ys H3 e3 h3 hy
    rw [fm_some] at hy
    have hb : ys = (L.map fun _ => true).map V.bl := dpa_bls (by rw [List.map_map]; exact hy)
    subst hb
    refine ⟨D, _, rfl, .inl (.inl h3), _, rfl, ?_⟩
    rw [show (L.map fun _ => true).all id = true by rw [List.all_map]; exact List.all_eq_true.mpr fun _ _ => rfl]
    have e13 := e12.trans e3
    exact ⟨_, rfl, _, rfl, _, rfl, v, f, d, l, ρ, L, rfl, e13.dp hv, hok, hdep, Nat.le_refl _, (h1.ex (e2.trans e3)).on fun _ => id, e13.st hl, fun H4 e4 => q H4 (e13.trans e4)⟩
/-! ### all_sides, tight_sides -/
def tupS (t : List Str) : PyData := .tuple (t.map .str)
theorem flat_strD : ∀ ns : List Str, flatDs (ns.map PyData.str) = true
  | [] => rfl
  | n :: r => by rw [List.map_cons, flatDs, flat_strD r]; rfl
theorem flat_tupS (t : List Str) : flatD (tupS t) = true := by unfold tupS; rw [flatD, flat_strD]
def spAll (T : Tl) (K : PySem.W.Frag) : Sp := fun vs H Q _ => ∃ (v : V) (f : Fm Str), vs = [v] ∧ Dp K H v (enc f) ∧ FmOk f ∧ f.names.length ≤ 5 ∧ depth f < 24 ∧
  ∀ H' p ys (ts : List (List Str)), Ex T H H' → H' p = some (.tup ys) → ts.Perm ((sidesIn f).map sortN) → DpAll K H' ys (ts.map tupS) → Q (.ref p) H'
theorem ok_all_sides (U : Txt K mg A D) : FnOk P w K mg base CX0 25 (A 37) (D 37) ["formula"] (spAll T K) := by
  have G_sides_in : FnOk P w K mg base CX0 24 (A 36) (D 36) ["formula"] (spSides T K 24) := ok_sides_in U 24
  refine (F_all_sides U).ok sc_all_sides (fun vs H Q E h => by obtain ⟨_, _, rfl, _⟩ := h; rfl) (fun cdv A' outer s H vs Q E hr h => ?_)
  obtain ⟨v, f, rfl, hv, hok, h5, hdep, q⟩ := h
  refine ⟨_, PSs.nox (pss_one
      (ps_ret (pe_callTy (kc_tuple K) (by rfl) (z_tuple U) boot_tuple (pa_cons (pe_callB (kc_sortedTS K hr.units) (by rfl) (z_sorted U) boot_sorted (pa_cons (pe_lc (g := gName 1) (tt := tYes) rfl sc_all_sides.nd (ki_list K (pe_f G_sides_in hr (by omega) (g_sides_in U) (F_sides_in U).kp (b_sides_in U) (pa_cons (pv 0) pa_nil))) (blkOk_by (N := N_all_sides) (own := [("side", 1)]) (by kernel_rfl)) (fun _ _ _ _ _ => (pg_name (i := 1) sc_all_sides.nd rfl (.inl rfl))) (fun _ _ _ _ _ => pts_nil) (fun _ _ _ _ _ => (pe_callTy (kc_tuple K) (by rfl) (z_tuple U) boot_tuple (pa_cons (pe_callB (kc_sortedS K) (by rfl) (z_sorted U) boot_sorted (pa_cons (pv 1) pa_nil)) pa_nil)))) pa_nil)) pa_nil)))), ?_⟩
  have hfew : (sidesIn f).length ≤ 2 ^ 5 := Nat.le_trans (sides_few hok.wf) (Nat.pow_le_pow_right (by decide) h5)
  have h32 : (2 : Nat) ^ 5 = 32 := rfl
  refine ⟨_, rfl, v, f, rfl, hv, hok, hdep, fun H1 p ys f1 e1 h1 hP => ⟨p, rfl, ⟨_, .inl (.inl h1)⟩, fun D hD => ?_⟩⟩
  refine map_core (T := T) (K := K) (as := sidesIn f) (fun t => some (tupS (sortN t))) walk_list hP.length.symm (by have := hP.length; omega) (fun H' e => .inl (.inl (e.lst h1))) hD ?_ ?_
  · rintro j t x H' H'' E N ht e ⟨acc, hacc⟩ ⟨rfl, hx⟩ _ hE
    obtain ⟨l, rfl, h2⟩ := paired_get hP hx ht
    obtain ⟨h3, _⟩ := newer_back h2
    have h4 : H'' l = some (.lst (t.map V.str)) := e.lst h3
    have ht8 : t.length ≤ 8 := Nat.le_trans (side_sub t (List.mem_of_getElem? ht)).length_le hok.few
    refine ⟨rfl, _, rfl, l, t, rfl, .inl (.inl h4), by omega, fun zs p1 pm so hp1 => ⟨p1, _, rfl, .inl ⟨.inl (.inl upd_same), fun p2 hp2 => ?_⟩⟩⟩
    rw [sortedS_is pm so] at hp2 ⊢
    have e3 : Ex T H'' (upd (upd H'' p1 (.lst ((sortN t).map V.str))) p2 (.tup ((sortN t).map V.str))) := (Ex.new hp1).trans (Ex.new hp2)
    exact hE _ rfl _ _ e3 fun o => dp_updL (e3.lst hacc) (flat_tupS _) (.tup (.inl (.inl upd_same)) (dpa_of_strs _)) _
  · intro zs H2 e2 h2 hz
    rw [fm_some, show ((sidesIn f).map fun t => tupS (sortN t)) = ((sidesIn f).map sortN).map tupS by rw [List.map_map]; rfl] at hz
    have hzl : zs.length = (sidesIn f).length := by rw [dpa_len hz, List.length_map, List.length_map]
    refine ⟨D, zs, (sidesIn f).map sortN, rfl, .inl (.inl h2), hz, by omega, ?_, fun us p3 pm hp3 => ?_⟩
    · intro t ht
      obtain ⟨u, hu, rfl⟩ := List.mem_map.mp ht
      intro z
      have h6 := sortN_len u
      rw [z] at h6
      exact (side_in hok.wf hu).1 (List.length_eq_zero_iff.mp h6.symm)
    obtain ⟨es, p4, hes⟩ := dpa_perm pm hz
    obtain ⟨ts, p5, rfl⟩ := perm_map p4
    refine ⟨p3, us, rfl, .inl ⟨.inl (.inl upd_same), fun p6 hp6 => ?_⟩⟩
    have e3 : Ex T H2 (upd (upd H2 p3 (.lst us)) p6 (.tup us)) := (Ex.new hp3).trans (Ex.new hp6)
    exact q _ p6 us ts ((e1.trans e2).trans e3) upd_same p5 (e3.dpa hes)
def tights (ρ : Str → Int) (f : Fm Str) (ts : List (List Str)) : List (List Str) := ts.filter fun t => decide (sideNum ρ t f = num ρ f)
def spTight (T : Tl) (K : PySem.W.Frag) : Sp := fun vs H Q _ => ∃ (v : V) (f : Fm Str) (a : Addr) (ρ : Str → Int), vs = [v, .ref a] ∧ Dp K H v (enc f) ∧ FmOk f ∧ f.names.length ≤ 5 ∧ depth f < 24 ∧ PoolAt K H a f.names ρ ∧
  ∀ H' p ys (ts : List (List Str)), Ex T H H' → H' p = some (.tup ys) → ts.Perm ((sidesIn f).map sortN) → DpAll K H' ys ((tights ρ f ts).map tupS) → Q (.ref p) H'
theorem ok_tight_sides (U : Txt K mg A D) : FnOk P w K mg base CX0 49 (A 39) (D 39) ["formula", "pool"] (spTight T K) := by
  have G_checked_row : FnOk P w K mg base CX0 27 (A 22) (D 22) ["formula", "pool"] (spAmt T K) := ok_checked_row U
  have G_number_of : FnOk P w K mg base CX0 24 (A 23) (D 23) ["formula", "row"] (spNum T K 24) := ok_number_of U 24
  have G_all_sides : FnOk P w K mg base CX0 25 (A 37) (D 37) ["formula"] (spAll T K) := ok_all_sides U
  have G_side_number : FnOk P w K mg base CX0 48 (A 38) (D 38) ["formula", "row", "side", "upwards"] (spSide T K 24) := ok_side_number U 24
  obtain ⟨dsv, hdv, hbv⟩ := b_side3 U
  refine (F_tight_sides U).ok sc_tight_sides (fun vs H Q E h => by obtain ⟨_, _, _, _, rfl, _⟩ := h; rfl) (fun cdv A' outer s H vs Q E hr h => ?_)
  obtain ⟨v, f, a, ρ, rfl, hv, hok, h5, hdep, hp, q⟩ := h
  refine ⟨_, PSs.nox (pss_cons
      (ps_set (i := 2) sc_tight_sides.nd rfl (.inr rfl) (pe_f G_checked_row hr (by omega) (g_checked_row U) (F_checked_row U).kp (b_checked_row U) (pa_cons (pv 0) (pa_cons (pv 1) pa_nil))))
      (pss_cons
      (ps_set (i := 3) sc_tight_sides.nd rfl (.inr rfl) (pe_f G_number_of hr (by omega) (g_number_of U) (F_number_of U).kp (b_number_of U) (pa_cons (pv 0) (pa_cons (pv 2) pa_nil))))
      (pss_one
      (ps_ret (pe_callTy (kc_tuple K) (by rfl) (z_tuple U) boot_tuple (pa_cons (pe_lc (g := gName 4) rfl sc_tight_sides.nd (ki_tup K (pe_f G_all_sides hr (by omega) (g_all_sides U) (F_all_sides U).kp (b_all_sides U) (pa_cons (pv 0) pa_nil))) (blkOk_by (N := N_tight_sides) (own := [("side", 4)]) (by kernel_rfl)) (fun _ _ _ _ _ => (pg_name (i := 4) sc_tight_sides.nd rfl (.inl rfl))) (fun _ _ _ _ _ => (pts_one (pt_cmpR op_eq (pe_fd G_side_number hr (by omega) (g_side_number U) (F_side_number U).kp hbv hdv (pa_cons (pv 0) (pa_cons (pv 2) (pa_cons (pv 4) pa_nil)))) (pv 3) (nomark _)))) (fun _ _ _ _ _ => (pv 4))) pa_nil)))))), ?_⟩
  have hfew : (sidesIn f).length ≤ 2 ^ 5 := Nat.le_trans (sides_few hok.wf) (Nat.pow_le_pow_right (by decide) h5)
  have h32 : (2 : Nat) ^ 5 = 32 := rfl
  refine ⟨_, rfl, _, rfl, v, f, a, ρ, rfl, hv, hok, hdep, hp, fun H1 d f1 e1 h1 => ?_⟩
  refine ⟨_, rfl, _, rfl, v, f, d, ρ, rfl, e1.dp hv, hok, hdep, h1.on fun _ => id, fun H2 e2 => ?_⟩
  have e12 := e1.trans e2
  refine ⟨_, rfl, v, f, rfl, e12.dp hv, hok, h5, hdep, fun H3 p3 ys ts e3 h3 pm hy => ⟨p3, rfl, ⟨_, .inl (.inl h3)⟩, fun D hD => ?_⟩⟩
  have e13 := e12.trans e3
  have htl : ts.length = (sidesIn f).length := by rw [pm.length_eq, List.length_map]
  refine map_tup (T := T) (e := tupS) (as := ts) (.inl (.inl h3)) hy (fun t => if decide (sideNum ρ t f = num ρ f) then some (tupS t) else none) (by omega) hD ?_ ?_
  · intro t x H' E N ht e hx g1 g2
    obtain ⟨l, rfl, hl⟩ := Dp.tup_strs hx
    have e14 := e13.trans e
    refine ⟨rfl, _, rfl, _, rfl, _, rfl, v, f, d, l, ρ, t, rfl, e14.dp hv, hok, hdep, Nat.le_refl _, (h1.ex ((e2.trans e3).trans e)).on fun _ => id, hl, fun H4 e4 => ⟨_, rfl, rfl, _, rfl, ?_⟩⟩
    rw [show decide (V.int (sideNum ρ t f) = V.int (num ρ f)) = decide (sideNum ρ t f = num ρ f) from decide_eq_decide.mpr ⟨V.int.inj, fun z => by rw [z]⟩]
    refine if_dec (fun z => ?_) fun z => ?_
    · exact ⟨_, rfl, g2 _ (if_pos (decide_eq_true z)) _ H4 e4 (flat_tupS t) (e4.dp hx)⟩
    · exact g1 (if_neg (by rw [decide_eq_false z]; decide)) H4 e4
  · intro zs H4 e4 h4 hz
    rw [fm_filter] at hz
    refine ⟨D, _, rfl, .inl ⟨.inl (.inl h4), fun t ht => ?_⟩⟩
    exact q _ t zs ts ((e13.trans e4).trans (Ex.new ht)) upd_same pm ((Ex.new (T := T) ht).dpa hz)
end
end K23
/-! V13: needed, pieces_with_plenty: what they refuse. -/
namespace K23
open PySem PySem.Spec PyProof.Rows L2
section
variable {T : Tl} {P : Program} {w : World} {K : PySem.W.Frag} {mg : Str → Option Value} {base : Heap} {A : Nat → Addr} {D : Nat → FuncData} {CN CR fN fR : Addr} {dN dR : FuncData}
/-- no name of ns, as needed looks at it -/
def OddK (K : PySem.W.Frag) (H : Hp) (x : V) (ns : List Str) : Prop := (∃ d, Dp K H x d ∧ d.canLay0 = true ∧ ∀ s ∈ ns, PyData.eqv (.str s) d = false) ∨ ∃ a, x = .ref a ∧ H a = some (.dK [])
theorem OddK.ex {H H' : Hp} {x : V} {ns : List Str} (e : Ex T H H') (h : OddK K H x ns) : OddK K H' x ns := by
  rcases h with ⟨d, h, r⟩ | ⟨a, e1, e2⟩
  · exact .inl ⟨d, e.dp h, r⟩
  · exact .inr ⟨a, e1, e.dK e2⟩
def spNeedX (T : Tl) (K : PySem.W.Frag) (CN CR : Addr) : Sp := fun vs H Q E => ∃ (v : V) (f : Fm Str) (a : Addr) (ρ : Str → Int) (x m : V), vs = [v, .ref a, x, m] ∧ Dp K H v (enc f) ∧ FmOk f ∧ depth f < 24 ∧ PoolAt K H a f.names ρ ∧
  ((OddK K H x f.names ∧ ∀ c dd H', errX T CR "kind" H c dd H' → E c dd H') ∨
    (∃ s tn, x = .str s ∧ s ∈ f.names ∧ Kd K H m tn ∧ numB m = false ∧ ∀ c dd H', errX T CN "many" H c dd H' → E c dd H'))
theorem ok_neededX (U : Txt K mg A D) (Er : Errs P w K mg base CN CR fN fR dN dR) : FnOk P w K mg base (L2.CX P w) 49 (A 26) (D 26) ["formula", "pool", "kind", "many"] (spNeedX T K CN CR) := by
  have G_checked_row : FnOk P w K mg base CX0 27 (A 22) (D 22) ["formula", "pool"] (spAmt T K) := ok_checked_row U
  have G_kinds_of : FnOk P w K mg base CX0 25 (A 15) (D 15) ["formula"] (spKinds T K) := ok_kinds_of U
  have G_is_number : FnOk P w K mg base CX0 2 (A 10) (D 10) ["value"] (spNbr K) := ok_is_number U
  have G_target_of : FnOk P w K mg base CX0 48 (A 25) (D 25) ["formula", "row", "name", "many"] (spTgt T K 24) := ok_target_of U 24
  refine (F_needed U).ok sc_needed (fun vs H Q E h => by obtain ⟨_, _, _, _, _, _, rfl, _⟩ := h; rfl) (fun cdv A' outer s H vs Q E hr h => ?_)
  obtain ⟨v, f, a, ρ, x, m, rfl, hv, hok, hdep, hp, h⟩ := h
  have tk : Takes (cxOf (L2.CX P w) P w K mg base N_needed "needed" (defScope (topS 26)) (A 26) cdv A' outer s H E) (fun cls d _ H => E cls d H) := takes_of rfl rfl rfl rfl
  refine ⟨_, (pss_cons
      (ps_set (i := 4) sc_needed.nd rfl (.inl rfl) (pe_f G_checked_row hr (by omega) (g_checked_row U) (F_checked_row U).kp (b_checked_row U) (pa_cons (pv 0) (pa_cons (pv 1) pa_nil))))
      (pss_cons
      (ps_if (pt_cmpR (kc_notInO K hr.units) (pv 2) (pe_f G_kinds_of hr (by omega) (g_kinds_of U) (F_kinds_of U).kp (b_kinds_of U) (pa_cons (pv 0) pa_nil)) rfl)
       (pss_one
       (ps_err rfl tk Er.ref hr (by omega) (by rfl)))
       pss_nil)
      (pss_cons
      (ps_if (pt_not (pt_val (pe_f G_is_number hr (by omega) (g_is_number U) (F_is_number U).kp (b_is_number U) (pa_cons (pv 3) pa_nil))))
       (pss_one
       (ps_err rfl tk Er.num hr (by omega) (by rfl)))
       pss_nil)
      (pss_cons
      (ps_set (i := 5) sc_needed.nd rfl (.inl rfl) (pe_f G_target_of hr (by omega) (g_target_of U) (F_target_of U).kp (b_target_of U) (pa_cons (pv 0) (pa_cons (pv 4) (pa_cons (pv 2) (pa_cons (pv 3) pa_nil))))))
      (pss_one
      (ps_ret (pe_ifExp (pt_cmpR op_isN (pv 5) pe_non (nomark _)) pe_non (pe_callB (kc_max K) (by rfl) (z_max U) boot_max (pa_cons pe_int (pa_cons (pv 5) pa_nil)))))))))), ?_⟩
  refine ⟨_, rfl, _, rfl, v, f, a, ρ, rfl, hv, hok, hdep, hp, fun H1 d f1 e1 h1 => ?_⟩
  have okS : ∀ s ∈ sortN f.names, PyData.strOk s = true := fun s hs => (hok.nm s (mem_sortN.mp hs)).ok
  rcases h with ⟨hx, q⟩ | ⟨s, tn, rfl, hs, hm, hn, q⟩
  · refine ⟨_, rfl, _, rfl, v, f, rfl, e1.dp hv, hok, hdep, fun H2 p f2 e2 h2 => ?_⟩
    have fin : tErr CR "kind" (fun cls d _ H => E cls d H) { nx := fun _ H' => Q .non H', rt := Q } [] H2 := err_q (T := T) fun dd H' e h' => q _ _ _ ⟨rfl, dd, rfl, h', (e1.trans e2).trans e⟩
    rcases (hx.ex e1).ex e2 with ⟨dx, hx, cl, no⟩ | hx
    · refine ⟨p, sortN f.names, rfl, .inl (.inl h2), okS, .inl ⟨dx, hx, cl, _, rfl, ?_⟩⟩
      rw [show (sortN f.names).any (fun z => PyData.eqv (.str z) dx) = false from List.any_eq_false.mpr fun z hz => by rw [no z (mem_sortN.mp hz)]; decide]
      exact fin
    · exact ⟨p, sortN f.names, rfl, .inl (.inl h2), okS, .inr ⟨hx, _, rfl, fin⟩⟩
  · refine ⟨_, rfl, _, rfl, v, f, rfl, e1.dp hv, hok, hdep, fun H2 p f2 e2 h2 => ⟨p, sortN f.names, rfl, .inl (.inl h2), okS, .inl ⟨.str s, .str s, by rw [PyData.canLay0]; exact (hok.nm s hs).ok, _, rfl, ?_⟩⟩⟩
    rw [show (sortN f.names).any (fun z => PyData.eqv (.str z) (.str s)) = true from List.any_eq_true.mpr ⟨s, mem_sortN.mpr hs, by rw [eqv_str, decide_eq_true rfl]⟩]
    refine ⟨_, rfl, m, tn, rfl, (hm.ex e1).ex e2, _, rfl, ?_⟩
    rw [hn]
    show (if (!false) = true then _ else _)
    rw [if_pos (by decide)]
    exact err_q (T := T) fun dd H' e h' => q _ _ _ ⟨rfl, dd, rfl, h', (e1.trans e2).trans e⟩
/-! ### pieces_with_plenty -/
def BadLot (K : PySem.W.Frag) (H : Hp) (l : V) (ns : List Str) : Prop :=
  (∃ a xs, l = .ref a ∧ SqT K H a xs ∧ xs.length < 64 ∧ (∀ y ∈ xs, ∃ tn, Kd K H y tn) ∧ (lotB xs = true → ∃ s ∈ strsOf xs, s ∉ ns)) ∨ ∃ tn, Kd K H l tn ∧ tn ≠ "tuple"
theorem BadLot.ex {H H' : Hp} {l : V} {ns : List Str} (e : Ex T H H') (h : BadLot K H l ns) : BadLot K H' l ns := by
  rcases h with ⟨a, xs, h1, h2, h3, h4, h5⟩ | ⟨tn, h1, h2⟩
  · exact .inl ⟨a, xs, h1, e.st h2, h3, fun y hy => by obtain ⟨tn, k⟩ := h4 y hy; exact ⟨tn, k.ex e⟩, h5⟩
  · exact .inr ⟨tn, h1.ex e, h2⟩
def spPlentyX (T : Tl) (K : PySem.W.Frag) (CR : Addr) : Sp := fun vs H Q E => ∃ (v : V) (f : Fm Str) (a : Addr) (ρ : Str → Int) (l : V), vs = [v, .ref a, l] ∧ Dp K H v (enc f) ∧ FmOk f ∧ depth f < 24 ∧ PoolAt K H a f.names ρ ∧ BadLot K H l f.names ∧
  ∀ c dd H', errX T CR "lot" H c dd H' → E c dd H'
theorem ok_plentyX (U : Txt K mg A D) (Er : Errs P w K mg base CN CR fN fR dN dR) : FnOk P w K mg base (L2.CX P w) 28 (A 29) (D 29) ["formula", "pool", "lot"] (spPlentyX T K CR) := by
  have G_checked_row : FnOk P w K mg base CX0 27 (A 22) (D 22) ["formula", "pool"] (spAmt T K) := ok_checked_row U
  have G_is_name_lot : FnOk P w K mg base CX0 2 (A 12) (D 12) ["value"] (spLot T K) := ok_is_name_lot U
  have G_endless_number : FnOk P w K mg base CX0 24 (A 28) (D 28) ["formula", "row", "lot"] (spEnd T K 24) := ok_endless_number U 24
  refine (F_pieces_with_plenty U).ok sc_pieces_with_plenty (fun vs H Q E h => by obtain ⟨_, _, _, _, _, rfl, _⟩ := h; rfl) (fun cdv A' outer s H vs Q E hr h => ?_)
  obtain ⟨v, f, a, ρ, l, rfl, hv, hok, hdep, hp, hb, q⟩ := h
  have tk : Takes (cxOf (L2.CX P w) P w K mg base N_pieces_with_plenty "pieces_with_plenty" (defScope (topS 29)) (A 29) cdv A' outer s H E) (fun cls d _ H => E cls d H) := takes_of rfl rfl rfl rfl
  refine ⟨_, (pss_cons
      (ps_set (i := 3) sc_pieces_with_plenty.nd rfl (.inr rfl) (pe_f G_checked_row hr (by omega) (g_checked_row U) (F_checked_row U).kp (b_checked_row U) (pa_cons (pv 0) (pa_cons (pv 1) pa_nil))))
      (pss_cons
      (ps_if (PW.pt (pw_or (pt_not (pt_val (pe_f G_is_name_lot hr (by omega) (g_is_name_lot U) (F_is_name_lot U).kp (b_is_name_lot U) (pa_cons (pv 2) pa_nil)))) (pw_or1 (pt_not (pt_val (pe_callB (kc_all K) (by rfl) (z_all U) boot_all (pa_cons (pe_lc (g := gName 4) (tt := tYes) rfl sc_pieces_with_plenty.nd (ki_tup K (pv 2)) (blkOk_by (N := N_pieces_with_plenty) (own := [("name", 4)]) (by kernel_rfl)) (fun _ _ _ _ _ => (pg_name (i := 4) sc_pieces_with_plenty.nd rfl (.inl rfl))) (fun _ _ _ _ _ => pts_nil) (fun _ _ _ _ _ => (pe_cmp (pc_din (hu_of hr) (pv 4) (pv 3))))) pa_nil)))))))
       (pss_one
       (ps_err rfl tk Er.ref hr (by omega) (by rfl)))
       pss_nil)
      (pss_one
      (ps_ret (pe_f G_endless_number hr (by omega) (g_endless_number U) (F_endless_number U).kp (b_endless_number U) (pa_cons (pv 0) (pa_cons (pv 3) (pa_cons (pv 2) pa_nil)))))))), ?_⟩
  refine ⟨_, rfl, _, rfl, v, f, a, ρ, rfl, hv, hok, hdep, hp, fun H1 d f1 e1 h1 => ?_⟩
  rcases hb.ex e1 with ⟨la, xs, rfl, hl, hlen, hk, hbad⟩ | ⟨tn, hk, hn⟩
  · refine ⟨_, rfl, .ref la, rfl, .inl ⟨la, xs, rfl, hl, hlen, hk, fun H2 e2 => ⟨_, rfl, ?_⟩⟩⟩
    cases hB : lotB xs with
    | false =>
      exact err_q (T := T) (C := CR) (m := "lot") (W := fun cls d _ H => E cls d H) (D := { nx := fun _ H' => Q .non H', rt := Q }) (σ := []) fun dd H' e h' => q _ _ _ ⟨rfl, dd, rfl, h', (e1.trans e2).trans e⟩
    | true =>
      have hB2 := hB
      unfold lotB at hB2
      rw [Bool.and_eq_true] at hB2
      obtain ⟨ex, _⟩ := all_nm hB2.1
      obtain ⟨s0, hs0, no⟩ := hbad hB
      rw [ex] at hl
      have slen : (strsOf xs).length < 64 := by
        have := congrArg List.length ex
        rw [List.length_map] at this
        omega
      refine ⟨_, rfl, la, rfl, ⟨_, e2.st hl⟩, fun D2 hD2 => ?_⟩
      refine map_tup (T := T) (e := PyData.str) (as := strsOf xs) (e2.st hl) (dpa_of_strs _) (fun s => some (.bool (decide (s ∈ f.names)))) (by omega) hD2 ?_ ?_
      · intro s1 x H' E N hs e hx _ hE
        have := hx.at_str
        subst this
        obtain ⟨kvs, k1, k2⟩ := h1.ex (e2.trans e)
        refine ⟨rfl, _, rfl, _, rfl, d, _, rfl, DGet.k (k := .inr s1) k1, ?_⟩
        rw [k2]
        show E (.bl (if s1 ∈ f.names then some (V.int (ρ s1)) else none).isSome) H'
        rw [show (if s1 ∈ f.names then some (V.int (ρ s1)) else none).isSome = decide (s1 ∈ f.names) by
          by_cases c : s1 ∈ f.names
          · rw [if_pos c, decide_eq_true c]; rfl
          · rw [if_neg c, decide_eq_false c]; rfl]
        exact hE _ rfl _ H' (Ex.refl _) rfl (.bl _)
      · intro ys H3 e3 h3 hy
        rw [fm_some] at hy
        have hb : ys = ((strsOf xs).map fun s => decide (s ∈ f.names)).map V.bl := dpa_bls (by rw [List.map_map]; exact hy)
        subst hb
        refine ⟨D2, _, rfl, .inl (.inl h3), _, rfl, ?_⟩
        rw [show ((strsOf xs).map fun s => decide (s ∈ f.names)).all id = false from by
          rw [List.all_map]
          exact List.all_eq_false.mpr ⟨s0, hs0, by simpa using no⟩]
        show (if (!false) = true then _ else _)
        rw [if_pos (by decide)]
        exact err_q (T := T) fun dd H' e h' => q _ _ _ ⟨rfl, dd, rfl, h', ((e1.trans e2).trans e3).trans e⟩
  · refine ⟨_, rfl, l, rfl, .inr ⟨tn, hk, hn, fun H2 e2 => ⟨_, rfl, ?_⟩⟩⟩
    exact err_q (T := T) (C := CR) (m := "lot") (W := fun cls d _ H => E cls d H) (D := { nx := fun _ H' => Q .non H', rt := Q }) (σ := []) fun dd H' e h' => q _ _ _ ⟨rfl, dd, rfl, h', (e1.trans e2).trans e⟩
end
end K23
set_option maxHeartbeats 2000000
/-! E4: _law_heard(lambda: ..). -/
namespace K23
open PySem PySem.Spec PyProof.Rows L2
section
variable {T : Tl} {P : Program} {w : World} {K : PySem.W.Frag} {mg : Str → Option Value} {base : Heap} {A : Nat → Addr} {D : Nat → FuncData} {CN CR fN fR : Addr} {dN dR : FuncData}
/-- what _law_heard makes of an error -/
def heardX (CN CR : Addr) (Q : VK) : XK := fun cls d H' => ∃ dd wd, d = some dd ∧ H' dd = some (.xd [("word", .str wd)]) ∧
  ((cls = .ref CN ∧ ∀ p, H' p = none → Q (.ref p) (upd H' p (.tup [.str "number", .str wd]))) ∨ (cls = .ref CR ∧ ∀ p, H' p = none → Q (.ref p) (upd H' p (.tup [.str "refused", .str wd]))))
/-- the lambda always raises -/
def TTH (CN CR : Addr) : (XK → Hp → VK → Prop) → Hp → VK → Prop := fun tl H Q => ∀ Q' : VK, tl (heardX CN CR Q) H Q'
theorem heard_gives {X : Cx} {q : Str} {cdg : Value} (Er : Errs X.prog X.w X.K X.mg X.base CN CR fN fR dN dR) :
    LamX.GivesTo X N_l_heard "_law_heard" (defScope (topS 59)) (A 59) cdg (defBody (topS 59)) "_law_work" q (TTH CN CR) := by
  intro f c' s H Q tl act hc h
  refine ⟨_, pss_one (ps_try_asL (X := (cxOf C8.CX0 X.prog X.w X.K X.mg X.base N_l_heard "_law_heard" (defScope (topS 59)) (A 59) cdg X.A X.stack s H C8.E0).nox) (n := "error") (i := 1)
    (tb := fun W D σ H => ∃ Ech : XK, (∀ cls d σ' H', Ech cls d H' → W cls d σ' H') ∧ σ[0]? = some (some (.ref f)) ∧ H c' = some (LamX.CodeO c' q) ∧ ∀ Q', tl Ech H Q')
    rfl rfl sc_l_heard.nd rfl rfl LamX.takes0 (fun W pn xe tk _ => ?_)
    (.cons (c := .ref CN) ⟨by rfl, by rfl, .inl Er.num.g⟩ (fun a oe cls d pn hz hf => pss_one (ps_ret (pe_tup (pa_cons pe_str (pa_cons (pe_xf Er.num.xf Er.num.no hz hf (pv 1)) pa_nil)))))
      (.cons (c := .ref CR) ⟨by rfl, by rfl, .inl Er.ref.g⟩ (fun a oe cls d pn hz hf => pss_one (ps_ret (pe_tup (pa_cons pe_str (pa_cons (pe_xf Er.ref.xf Er.ref.no hz hf (pv 1)) pa_nil))))) .nil))), ?_⟩
  · refine ⟨fun pins s' σ H' D I h' => ?_⟩
    obtain ⟨Ech, hW, h1, h2, h3⟩ := h'
    refine PSs.run (?_ : PSs _ _ (tRet (tTup (tCons (tC (V.str "told")) (tCons (fun σZ HZ Q => σZ[0]? = some (some (V.ref f)) ∧ HZ c' = some (LamX.CodeO c' q) ∧ tl Ech HZ Q) tNil))))) pins s' σ H' D I ⟨h1, h2, h3 _⟩
    exact pss_one (ps_ret (pe_tup (pa_cons pe_str (pa_cons (act W pn xe Ech _ _ tk hW) pa_nil))))
  · refine ⟨heardX CN CR Q, ?_, rfl, hc, h⟩
    rintro cls d σ' H' ⟨dd, wd, rfl, hd, ⟨rfl, q1⟩ | ⟨rfl, q1⟩⟩
    · refine ⟨true, Er.nn, ?_, by intro z; cases z⟩
      intro _ a na len
      have len2 : 1 < σ'.length := by rw [len]; exact Nat.lt_succ_self 1
      exact ⟨_, List.getElem?_set_self len2, rfl, rfl, dd, _, .str wd, rfl, hd, rfl, sz_ok (n := 2) (by decide), fun p hp => q1 p hp⟩
    · refine ⟨false, Er.rn, (by intro z; cases z), ?_⟩
      intro _
      refine ⟨true, Er.rr, ?_, by intro z; cases z⟩
      intro _ a na len
      have len2 : 1 < σ'.length := by rw [len]; exact Nat.lt_succ_self 1
      exact ⟨_, List.getElem?_set_self len2, rfl, rfl, dd, _, .str wd, rfl, hd, rfl, sz_ok (n := 2) (by decide), fun p hp => q1 p hp⟩
/-- _law_heard(lambda: body) -/
theorem pe_heard {X : Cx} {params : Arguments} {body : Expr} {scope : Scope} {t : XK → TE} {p lpos pos : Pos} {c Pt : Addr} {k : Nat} (U : Txt X.K X.mg A D) (Er : Errs X.prog X.w X.K X.mg X.base CN CR fN fR dN dR)
    (TB : LamX.TabB X.base X.mg c Pt) (hcode : X.env.code = .ref c) (hmT : (Pt, X.env.qual ++ "<lambda>") ∈ T) (hu : ∀ p ∈ T, p.1 = Pt → p.2 = X.env.qual ++ "<lambda>") (hr : Room (k + 2) X.A) (L : LamX.LamS X.env.scope scope)
    (hbind : ∀ (q : Str) (cl : List (Str × Addr)) (pm cv ctv : Value), bindArgs (PySem.W.kla_fn "<lambda>" q params body scope cl pm cv ctv) ⟨[], []⟩ = pure [])
    (hbody : ∀ (A : Around) (outer : List Env) (s : Shared) (H : Hp) (E : XK) (f c' : Addr), Room k (A.deeper (LamX.lamEnv X scope s.heap.objs.size f c')) → PE (LamX.lamCx X A outer s H E scope f c') body (t E))
    (hg : Gl X "_law_heard" := by rfl) (hdef : defaultsOf params X.env = ([], []) := by rfl) :
    PE X (.Call (.Name "_law_heard" p) [.Lambda params body scope lpos] [] pos) (LamX.tLam T (TTH CN CR) t) := by
  have hk := (F_l_heard U).kp
  have hb := b_l_heard U
  obtain ⟨oc, od, dV, kV, doc, pm, an, cdv, ct, osl, e0, lk, hcd, _, _⟩ := (F_l_heard U).ex
  rw [e0] at lk hb
  exact LamX.pe_lamcall (Ng := N_l_heard) hg (g_l_heard U) hk lk hcd hb sc_l_heard rfl (.inl (by rfl)) (heard_gives Er) TB hcode hmT hu hr L hdef hbind hbody (by decide)
end
end K23
/-! G2: repr of None, of an int, of a tuple of names. -/
namespace K23
open PySem PySem.Spec PyProof.Rows L2
/-- what repr is asked of -/
inductive ReprOk : PyData → Prop
  | none : ReprOk .none
  | int (i : Int) (h : i.natAbs.log2 < 1920) : ReprOk (.int i)
  | nms (ns : List Str) (h : ∀ y ∈ ns, IsNm y) (few : ns.length ≤ 100) : ReprOk (.tuple (ns.map .str))
def rRepr (K : PySem.W.Frag) : List V → Hp → VK → Prop := fun vs H Q => ∃ (v : V) (d : PyData), vs = [v] ∧ Dp K H v d ∧ ReprOk d ∧ Q (.str d.shown) H
theorem show_strs : ∀ ns : List Str, PyData.showableAll (ns.map .str) = true ∧ PyData.hasDictAll (ns.map .str) = false ∧ PyData.depthAll (ns.map .str) = 0 ∧ PyData.shownAll (ns.map .str) = ns.map reprText
  | [] => ⟨by simp [PyData.showableAll], by simp [PyData.hasDictAll], by simp [PyData.depthAll], by simp [PyData.shownAll]⟩
  | n :: r => by
    obtain ⟨a, b, c, d⟩ := show_strs r
    rw [List.map_cons]
    refine ⟨?_, ?_, ?_, ?_⟩
    · rw [PyData.showableAll, a]; simp [PyData.showable]
    · rw [PyData.hasDictAll, b]; simp [PyData.hasDict]
    · rw [PyData.depthAll, c]; simp [PyData.depth]
    · rw [PyData.shownAll, d]; simp [PyData.shown]
theorem cost_nm : ∀ (ns : List Str), (∀ y ∈ ns, IsNm y) → fmtCost ns ≤ 54 * ns.length
  | [], _ => by unfold fmtCost; simp
  | n :: r, h => by
    rw [fmtCost_cons, List.length_cons]
    have := cost_nm r fun y hy => h y (List.mem_cons_of_mem _ hy)
    have := (h n List.mem_cons_self).2.1
    omega
theorem kc_repr (K : PySem.W.Frag) {X : Cx} (hG : X.A.guards = some []) (hu : X.A.units + 64 < cLine) (h : X.K = K := by rfl) : CallR X (.builtin "repr") (rRepr K) := by
  cases h
  rintro pins s σ H vs us Q I r ⟨v, d, rfl, dp, ok, q⟩
  obtain ⟨u, rfl, ru⟩ := r.one
  cases ok with
  | none =>
    obtain rfl := dp.at_none
    cases ru
    exact P.repr_of_none ⟨.str (PyData.shown .none), H, I.tok _, ⟨_, rfl⟩, q⟩
  | int i hi =>
    obtain rfl := dp.at_int
    obtain ⟨t, rfl⟩ := ru
    exact P.repr_of_int hi ⟨.str (PyData.shown (.int i)), H, I.tok _, ⟨_, rfl⟩, q⟩
  | nms ns hn few =>
    obtain ⟨as, rd⟩ := Dp.reads I _ _ _ dp ru
    obtain ⟨a, e, _⟩ := dp.tup_strs
    cases e
    cases ru
    obtain ⟨s1, s2, s3, s4⟩ := show_strs ns
    have small : ∀ y ∈ ns, ∀ c ∈ y.cps.toList, c < 16 ^ 8 := fun y hy c hc => Nat.lt_of_le_of_lt ((hn y hy).2.2 c hc).2 (by decide)
    have t1 := fmt_text (ns.map reprText)
    have t2 := fmt_piled ns small
    have t3 := cost_nm ns hn
    refine repr_of_reads' rd (by simp [PyData.showable, s1]) (PyData.noDict_hsm (by simp [PyData.hasDict, s2])) hG (by rw [PyData.depth, s3]; omega) (fun b o e => e) (fun h' t tk kp => ⟨.str (PyData.shown (.tuple (ns.map .str))), H, I.kept kp, ⟨t, rfl⟩, q⟩) ?_
    rw [PyData.shown, s4, sizeLine_eq]
    omega
end K23
/-! G3: the law's calls by keywords alone: every argument named, from the last to the first. -/
namespace K23
open PySem PySem.Spec PyProof.Rows L2
def gRev {α : Type} (us ws : List α) : List α := match us with
  | [] => ws.reverse
  | _ :: _ => []
theorem vals_rev : ∀ {zs : List V} {ws : List Value}, Vals zs ws → Vals zs.reverse ws.reverse
  | _, _, .nil => .nil
  | _, _, .cons h t => by
    rw [List.reverse_cons, List.reverse_cons]
    exact (vals_rev t).append (.cons h .nil)
theorem gRev_rel {vs zs : List V} {us ws : List Value} (h : Vals vs us) (k : Vals zs ws) : Vals (gRev vs zs) (gRev us ws) := by
  cases h with
  | nil => exact vals_rev k
  | cons _ _ => exact .nil
theorem dfl_nil {K : PySem.W.Frag} {dV : Value} (h : DflV K dV []) : dV = .none := by
  rcases h with ⟨_, e⟩ | ⟨e, _⟩
  · exact e
  · exact absurd rfl e
section
variable {K : PySem.W.Frag} {mg : Str → Option Value} {A : Nat → Addr} {D : Nat → FuncData}
theorem kb_needed (U : Txt K mg A D) : KBinds K (D 26) ["formula", "pool", "kind", "many"] ["many", "kind", "pool", "formula"] gRev gRev := by
  obtain ⟨oc, od, dV, kV, doc, pm, an, cdv, ct, osl, e, _, _, d1, d2⟩ := (F_needed U).ex
  rw [e]
  obtain rfl := dfl_nil d1
  refine ⟨fun s us ws hin hl => ?_, gRev_rel⟩
  match us, hl with
  | [], hl =>
    have hl : ws.reverse.length = 4 := hl
    rw [List.length_reverse] at hl
    match ws, hl with
    | [a, b, c, d], _ => exact .of_eq rfl
theorem kb_short_kinds (U : Txt K mg A D) : KBinds K (D 27) ["formula", "pool"] ["pool", "formula"] gRev gRev := by
  obtain ⟨oc, od, dV, kV, doc, pm, an, cdv, ct, osl, e, _, _, d1, d2⟩ := (F_short_kinds U).ex
  rw [e]
  obtain rfl := dfl_nil d1
  refine ⟨fun s us ws hin hl => ?_, gRev_rel⟩
  match us, hl with
  | [], hl =>
    have hl : ws.reverse.length = 2 := hl
    rw [List.length_reverse] at hl
    match ws, hl with
    | [a, b], _ => exact .of_eq rfl
theorem kb_pieces_with_plenty (U : Txt K mg A D) : KBinds K (D 29) ["formula", "pool", "lot"] ["lot", "pool", "formula"] gRev gRev := by
  obtain ⟨oc, od, dV, kV, doc, pm, an, cdv, ct, osl, e, _, _, d1, d2⟩ := (F_pieces_with_plenty U).ex
  rw [e]
  obtain rfl := dfl_nil d1
  refine ⟨fun s us ws hin hl => ?_, gRev_rel⟩
  match us, hl with
  | [], hl =>
    have hl : ws.reverse.length = 3 := hl
    rw [List.length_reverse] at hl
    match ws, hl with
    | [a, b, c], _ => exact .of_eq rfl
end
end K23
/-! W11: joined, normal_times, normal, normal_cut, formula_lacking, formula_plenty. -/
namespace K23
open PySem PySem.Spec PyProof.Rows L2
theorem FmOk.nrm {B m : Nat} {f g : Fm Str} (h : FmOk f) (n : Nrm B m f g) (hB : B ≤ 12) : FmOk g := ⟨n.wf.mono hB, n.perm.nodup_iff.mpr h.nd, by rw [n.perm.length_eq]; exact h.few, fun s hs => h.nm s (n.perm.mem_iff.mp hs)⟩
theorem nrm_depth {B m : Nat} {f g : Fm Str} (n : Nrm B m f g) (h5 : f.names.length ≤ 5) : depth g ≤ 18 := by
  have h1 := n.few
  have h2 := depth_le_nodes g
  omega
theorem kid_depth {b : Bool} {g x : Fm Str} (h : x ∈ kids b g) : depth x ≤ depth g := by
  cases g with
  | kind s => rw [show kids b (.kind s) = [.kind s] from rfl] at h; rw [List.mem_singleton.mp h]; exact Nat.le_refl _
  | many n p => rw [show kids b (.many n p) = [.many n p] from rfl] at h; rw [List.mem_singleton.mp h]; exact Nat.le_refl _
  | node c qs =>
    rw [kids_node] at h
    split at h
    · rw [depth_node]; have := depth_part h; omega
    · rw [List.mem_singleton.mp h]; exact Nat.le_refl _
theorem kid_ok {b : Bool} {g x : Fm Str} (hg : FmOk g) (h : x ∈ kids b g) : FmOk x := by
  cases g with
  | kind s => rw [show kids b (.kind s) = [.kind s] from rfl] at h; rw [List.mem_singleton.mp h]; exact hg
  | many n p => rw [show kids b (.many n p) = [.many n p] from rfl] at h; rw [List.mem_singleton.mp h]; exact hg
  | node c qs =>
    rw [kids_node] at h
    split at h
    · exact hg.part h
    · rw [List.mem_singleton.mp h]; exact hg
theorem kids_few {b : Bool} {g : Fm Str} (hg : FmOk g) : (kids b g).length ≤ 8 := by
  cases g with
  | kind s => exact Nat.le_of_ble_eq_true rfl
  | many n p => exact Nat.le_of_ble_eq_true rfl
  | node c qs =>
    rw [kids_node]
    split
    · exact hg.names_node
    · exact Nat.le_of_ble_eq_true rfl
theorem flat_gs (gs : List (Fm Str)) : flatDs (gs.map enc) = true := by rw [← encL_eq]; exact flat_encL gs
theorem flat_app : ∀ {ds es : List PyData}, flatDs ds = true → flatDs es = true → flatDs (ds ++ es) = true
  | [], _, _, h => h
  | d :: ds, es, h, h' => by
    rw [flatDs, Bool.and_eq_true] at h
    rw [List.cons_append, flatDs, h.1, flat_app h.2 h']; rfl
/-- a part of a joint: by its word -/
theorem join_at {K : PySem.W.Frag} {H : Hp} {b : Bool} {x : V} {g : Fm Str} (h : Dp K H x (enc g)) : ∃ a wx rest, x = .ref a ∧ SqT K H a (.str wx :: rest) ∧
    ((wx = (if b then "and" else "or" : Str) ∧ ∃ c us qs, rest = [.ref c] ∧ SqT K H c us ∧ DpAll K H us (qs.map enc) ∧ kids b g = qs) ∨ (wx ≠ (if b then "and" else "or" : Str) ∧ kids b g = [g])) := by
  cases g with
  | kind s =>
    obtain ⟨a, rfl, ha⟩ := at_kind h
    exact ⟨a, "kind", _, rfl, ha, .inr ⟨fun z => n_nk b z.symm, rfl⟩⟩
  | many n p =>
    obtain ⟨a, u, rfl, ha, _⟩ := at_many h
    exact ⟨a, "many", _, rfl, ha, .inr ⟨fun z => n_nm b z.symm, rfl⟩⟩
  | node c qs =>
    obtain ⟨a, d, us, rfl, ha, hd, hu⟩ := at_node h
    by_cases e : c = b
    · subst e
      exact ⟨a, _, _, rfl, ha, .inl ⟨rfl, d, us, qs, rfl, hd, hu, by rw [kids_node, if_pos rfl]⟩⟩
    · exact ⟨a, _, _, rfl, ha, .inr ⟨fun z => e ((w_bb c b).mp z), by rw [kids_node, if_neg e]⟩⟩
/-- where a def's lambdas are kept -/
def LamOk (mg : Str → Option Value) (base : Heap) (T : Tl) (fd : FuncData) (q : Str) : Prop := ∃ c P, fd.code = .ref c ∧ LamX.TabB base mg c P ∧ (P, q) ∈ T ∧ ∀ p ∈ T, p.1 = P → p.2 = q
section
variable {T : Tl} {P : Program} {w : World} {K : PySem.W.Frag} {mg : Str → Option Value} {base : Heap} {A : Nat → Addr} {D : Nat → FuncData}
/-! ### joined -/
def spJoin (T : Tl) (K : PySem.W.Frag) : Sp := fun vs H Q _ => ∃ (b : Bool) (l : Addr) (xs : List V) (gs : List (Fm Str)), vs = [.str (if b then "and" else "or"), .ref l] ∧ SqL K H l xs ∧ DpAll K H xs (gs.map enc) ∧ (∀ g ∈ gs, FmOk g ∧ depth g ≤ 18) ∧ gs.length ≤ 8 ∧ LamX.Tabs T H ∧
  ∀ H' v, Ex T H H' → Dp K H' v (enc (.node b (ordF (gs.flatMap (kids b))))) → Q v H'
theorem flat_le {gs : List (Fm Str)} {b : Bool} (h : ∀ g ∈ gs, FmOk g) : (gs.flatMap (kids b)).length ≤ 8 * gs.length := by
  induction gs with
  | nil => simp
  | cons g r ih =>
    have i := ih fun x hx => h x (List.mem_cons_of_mem _ hx)
    have k := kids_few (b := b) (h g List.mem_cons_self)
    rw [List.flatMap_cons, List.length_append, List.length_cons]
    omega
theorem ok_joined (U : Txt K mg A D) (hL : LamOk mg base T (D 16) "joined.<locals>.<lambda>") : FnOk P w K mg base CX0 28 (A 16) (D 16) ["word", "parts"] (spJoin T K) := by
  have G_names_in : FnOk P w K mg base CX0 24 (A 14) (D 14) ["formula"] (spNames T K 24) := ok_names_in U 24
  obtain ⟨c, Pt, hcd0, hTB, hmT, hu⟩ := hL
  obtain ⟨oc, od, dV, kV, doc, pm, an, cdv, ct, osl, e0, lk, hcd, hd, hk⟩ := (F_joined U).ex
  rw [e0] at hcd0 lk ⊢
  have ecd : cdv = .ref c := hcd0
  subst ecd
  refine fn_of lk hcd sc_joined (fun vs H Q E h => by obtain ⟨_, _, _, _, rfl, _⟩ := h; rfl) (fun A' outer s H vs Q E hr h => ?_)
  obtain ⟨b, l, xs, gs, rfl, hl, hx, hgs, hlen, hT, q⟩ := h
  refine ⟨_, PSs.nox (pss_cons
      (ps_set (i := 2) sc_joined.nd rfl (.inl rfl) (pe_lst pa_nil))
      (pss_cons
      (ps_for PassesOwn.never rfl (ki_list K (pv 1)) (pg_name (i := 3) sc_joined.nd rfl (.inl rfl))
       (pss_one
       (ps_expr (kb_m K PySem.F.plainAttrs_list PySem.F.slot_list_extend PySem.F.type_list_extend (mt_extendT K) (pv 2) (pa_cons (pe_ifExp (pt_cmpR op_eq (pe_ix (kx_tup K) (pv 3) pe_int (fun _ _ => rfl)) (pv 0) (nomark _)) (pe_ix (kx_tup K) (pv 3) pe_int (fun _ _ => rfl)) (pe_tup (pa_cons (pv 3) pa_nil))) pa_nil)))))
      (pss_one
      (ps_ret (pe_tup (pa_cons (pv 0) (pa_cons (pe_callTy (kc_tuple K) (by rfl) (z_tuple U) boot_tuple (pa_cons (pe_sortkey T K G_names_in hr (by omega) (g_names_in U) (F_names_in U).kp (b_names_in U) (z_sorted U) (z_min U) hTB rfl hmT hu (pv 2)) pa_nil)) pa_nil))))))), ?_⟩
  have hxl : xs.length = gs.length := by rw [dpa_len hx, List.length_map]
  refine ⟨sz_ok (n := 0) (by decide), fun fo hfo => ?_⟩
  have e1 : Ex T H (upd H fo (.lst [])) := Ex.new hfo
  refine ⟨_, rfl, l, rfl, ⟨xs, e1.sl hl⟩, ?_⟩
  refine for_it (walk_list (xs := xs)) (fun i σ H' => ∃ y3 ys, σ = [some (.str (if b then "and" else "or")), some (.ref l), some (.ref fo), y3] ∧ Ex T H H' ∧ H' fo = some (.lst ys) ∧ DpAll K H' ys (((gs.take i).flatMap (kids b)).map enc)) ⟨none, [], rfl, e1, upd_same, .nil⟩ ?_ ?_ ?_
  · rintro i σ H' _ ⟨_, _, _, e, _⟩; exact e.sl hl
  · rintro i x σ H2 H3 hi ⟨y3, ys, rfl, e2, h2, hy⟩ ⟨rfl, hxi⟩
    obtain ⟨g, hg⟩ : ∃ g, gs[i]? = some g := ⟨gs[i]'(by omega), List.getElem?_eq_getElem (by omega)⟩
    have hgm : g ∈ gs := List.mem_of_getElem? hg
    have hxg : Dp K H3 x (enc g) := e2.dp (at_dat hx hg hxi)
    have hnext : (gs.take (i + 1)).flatMap (kids b) = (gs.take i).flatMap (kids b) ++ kids b g := by
      rw [take_snoc hg, List.flatMap_append, List.flatMap_singleton]
    have hyl : ys.length ≤ 64 := by
      rw [dpa_len hy, List.length_map]
      have := flat_le (gs := gs.take i) (b := b) fun g hg => (hgs g (List.mem_of_mem_take hg)).1
      rw [List.length_take] at this
      omega
    have kf := kids_few (b := b) (hgs g hgm).1
    obtain ⟨a, wx, rest, rfl, ha, hw⟩ := join_at (b := b) hxg
    have hF : SqL K H3 fo ys := .inl (.inl h2)
    refine ⟨_, rfl, .inl ⟨rfl, _, hF⟩, ?_⟩
    refine ⟨_, rfl, a, _, 0, .str wx, rfl, rfl, ha, atI_nat (j := 0) rfl, _, rfl, rfl, _, rfl, ?_⟩
    rw [show decide (V.str wx = V.str (if b then "and" else "or")) = decide (wx = (if b then "and" else "or" : Str)) from decide_eq_decide.mpr ⟨V.str.inj, fun z => by rw [z]⟩]
    refine if_dec (fun z => ?_) fun z => ?_
    · rcases hw with ⟨_, c', us, qs, rfl, h5, h6, h7⟩ | ⟨h5, _⟩
      · have hus : us.length = qs.length := by rw [dpa_len h6, List.length_map]
        rw [h7] at kf
        refine ⟨_, rfl, a, _, 1, .ref c', rfl, rfl, ha, atI_nat (j := 1) rfl, fo, c', ys, us, rfl, rfl, h2, h5, by omega, ?_⟩
        refine ⟨_, _, rfl, e2.lstF (Fr.of hfo) h2, upd_same, ?_⟩
        rw [hnext, h7, List.map_append]
        exact dpa_monoT (tup_updL h2) _ _ (flat_app (flat_gs _) (flat_gs _)) (dpa_app hy h6)
      · exact absurd z h5
    · rcases hw with ⟨h5, _⟩ | ⟨_, h7⟩
      · exact absurd h5 z
      · refine ⟨_, rfl, sz_ok (n := 1) (by decide), fun t ht => ⟨fo, t, ys, _, rfl, rfl, ?_, .inl (.inl upd_same), ?_, ?_⟩⟩
        · rw [upd_ne (ne_of_none h2 ht)]; exact h2
        · simp only [List.length_singleton]; omega
        have h8 : (upd H3 t (.tup [.ref a])) fo = some (.lst ys) := by rw [upd_ne (ne_of_none h2 ht)]; exact h2
        refine ⟨_, _, rfl, (e2.trans (Ex.new ht)).lstF (Fr.of hfo) h8, upd_same, ?_⟩
        rw [hnext, h7, List.map_append]
        exact dpa_monoT (tup_updL h8) _ _ (flat_app (flat_gs _) (flat_gs _)) ((Ex.new (T := T) ht).dpa (dpa_app hy (.cons hxg .nil)))
  · rintro σ H2 ⟨y3, ys, rfl, e2, h2, hy⟩
    rw [show gs.take xs.length = gs by rw [hxl]; exact List.take_length] at hy
    have hfl : (gs.flatMap (kids b)).length ≤ 64 := by
      have := flat_le (b := b) fun g hg => (hgs g hg).1
      omega
    refine ⟨_, rfl, _, rfl, fo, ys, gs.flatMap (kids b), rfl, .inl (.inl h2), hy, ?_, by omega, e2.tabs hT, fun H3 zs p f3 e3 h3 hz => ?_⟩
    · intro g hg
      obtain ⟨g0, hg0, hg1⟩ := List.mem_flatMap.mp hg
      have := kid_depth hg1
      have := (hgs g0 hg0).2
      exact ⟨kid_ok (hgs g0 hg0).1 hg1, by omega⟩
    · refine ⟨p, zs, rfl, .inl ⟨.inl (.inl h3), fun t ht => ?_⟩⟩
      refine ⟨sz_ok (n := 2) (by decide), fun r hr => ?_⟩
      refine q _ _ (((e2.trans e3).trans (Ex.new ht)).trans (Ex.new hr)) ?_
      rw [enc_node]
      exact .tup (.inl (.inl upd_same)) (.cons (.str _) (.cons (.tup (.inl (.inl ((Ex.new (T := T) hr).tup upd_same))) ((Ex.new (T := T) hr).dpa ((Ex.new (T := T) ht).dpa hz))) .nil))
end
end K23
/-! W12: normal_times, normal, normal_cut, formula_lacking, formula_plenty. -/
namespace K23
open PySem PySem.Spec PyProof.Rows L2
section
variable {T : Tl} {P : Program} {w : World} {K : PySem.W.Frag} {mg : Str → Option Value} {base : Heap} {A : Nat → Addr} {D : Nat → FuncData}
def spNT (T : Tl) (K : PySem.W.Frag) (n : Nat) : Sp := fun vs H Q _ => ∃ (v : V) (f : Fm Str) (m B : Nat), vs = [v, .int (m : Int)] ∧ Dp K H v (enc f) ∧ FmOk f ∧ f.names.length ≤ 5 ∧ depth f < n ∧ 0 < m ∧ m ≤ B ∧ B ≤ 12 ∧ Wf (B / m) f ∧ LamX.Tabs T H ∧
  ∀ H' v', Ex T H H' → Dp K H' v' (enc (normT f m)) → Q v' H'
theorem part_len {b : Bool} {ps : List (Fm Str)} {p : Fm Str} (hp : p ∈ ps) (h : (Fm.node b ps).names.length ≤ 5) : p.names.length ≤ 5 := Nat.le_trans (names_part (b := b) hp).length_le h
theorem ok_normal_times (U : Txt K mg A D) (hL : LamOk mg base T (D 16) "joined.<locals>.<lambda>") : ∀ n, FnOk P w K mg base CX0 (n + 28) (A 17) (D 17) ["formula", "many"] (spNT T K n)
  | 0 => ⟨fun vs H Q E h => by obtain ⟨_, _, _, _, _, _, _, _, h, _⟩ := h; omega, fun _ _ _ H _ _ vs Q E _ _ _ _ h => by obtain ⟨_, _, _, _, _, _, _, _, h, _⟩ := h; omega⟩
  | n + 1 => by
    have G_normal_times : FnOk P w K mg base CX0 (n + 28) (A 17) (D 17) ["formula", "many"] (spNT T K n) := ok_normal_times U hL n
    have G_joined : FnOk P w K mg base CX0 28 (A 16) (D 16) ["word", "parts"] (spJoin T K) := ok_joined U hL
    refine FnOk.mono ((F_normal_times U).ok (k := n + 28) sc_normal_times (fun vs H Q E h => by obtain ⟨_, _, _, _, rfl, _⟩ := h; rfl) (fun cdv A' outer s H vs Q E hr h => ?_)) (by omega)
    obtain ⟨v, f, m, B, rfl, hv, hok, h5, hdep, hm0, hmB, hB, hwf, hT, q⟩ := h
    refine ⟨_, PSs.nox (pss_cons
      (ps_if (pt_cmpR op_eq (pe_ix (kx_tup K) (pv 0) pe_int (fun _ _ => rfl)) pe_str (nomark _))
       (pss_one
       (ps_ret (pe_f G_normal_times hr (by omega) (g_normal_times U) (F_normal_times U).kp (b_normal_times U) (pa_cons (pe_ix (kx_tup K) (pv 0) pe_int (fun _ _ => rfl)) (pa_cons (pe_op op_mul (pv 1) (pe_ix (kx_tup K) (pv 0) pe_int (fun _ _ => rfl))) pa_nil)))))
       pss_nil)
      (pss_cons
      (ps_if (pt_cmpR op_eq (pe_ix (kx_tup K) (pv 0) pe_int (fun _ _ => rfl)) pe_str (nomark _))
       (pss_one
       (ps_ret (pe_f G_joined hr (by omega) (g_joined U) (F_joined U).kp (b_joined U) (pa_cons pe_str (pa_cons (pe_lc (g := gName 3) (tt := tYes) rfl sc_normal_times.nd (ki_tup K (pe_ix (kx_tup K) (pv 0) pe_int (fun _ _ => rfl))) (blkOk_by (N := N_normal_times) (own := [("part", 3)]) (by kernel_rfl)) (fun _ _ _ _ _ => (pg_name (i := 3) sc_normal_times.nd rfl (.inl rfl))) (fun _ _ _ _ _ => pts_nil) (fun _ _ _ _ _ => (pe_f G_normal_times hr (by omega) (g_normal_times U) (F_normal_times U).kp (b_normal_times U) (pa_cons (pv 3) (pa_cons (pv 1) pa_nil))))) pa_nil)))))
       pss_nil)
      (pss_cons
      (ps_set (i := 2) sc_normal_times.nd rfl (.inl rfl) (pv 0))
      (pss_cons
      (ps_if (pt_cmpR op_eq (pe_ix (kx_tup K) (pv 0) pe_int (fun _ _ => rfl)) pe_str (nomark _))
       (pss_one
       (ps_set (i := 2) sc_normal_times.nd rfl (.inl rfl) (pe_f G_joined hr (by omega) (g_joined U) (F_joined U).kp (b_joined U) (pa_cons pe_str (pa_cons (pe_lc (g := gName 3) (tt := tYes) rfl sc_normal_times.nd (ki_tup K (pe_ix (kx_tup K) (pv 0) pe_int (fun _ _ => rfl))) (blkOk_by (N := N_normal_times) (own := [("part", 3)]) (by kernel_rfl)) (fun _ _ _ _ _ => (pg_name (i := 3) sc_normal_times.nd rfl (.inl rfl))) (fun _ _ _ _ _ => pts_nil) (fun _ _ _ _ _ => (pe_f G_normal_times hr (by omega) (g_normal_times U) (F_normal_times U).kp (b_normal_times U) (pa_cons (pv 3) (pa_cons pe_int pa_nil))))) pa_nil)))))
       pss_nil)
      (pss_one
      (ps_ret (pe_ifExp (pt_cmpR op_gt (pv 1) pe_int (nomark _)) (pe_tup (pa_cons pe_str (pa_cons (pv 1) (pa_cons (pv 2) pa_nil)))) (pv 2)))))))), ?_⟩
    -- the end of the ways that give many * inner
    have fin : ∀ {H1 : Hp} {a : Addr} {u : V} {g : Fm Str} {y3 : Option V}, Ex T H H1 → Dp K H1 u (enc g) → normT f m = (if 1 < m then .many m g else g) →
        tRet (tIf (tTest (tOp (rI0 fun i j => .bl (decide (j < i))) (tVar 1) (tC (.int 1)))) (tTup (tCons (tC (.str "many")) (tCons (tVar 1) (tCons (tVar 2) tNil)))) (tVar 2)) { nx := fun _ H' => Q .non H', rt := Q } [some (.ref a), some (.int (m : Int)), some u, y3] H1 := fun {H1 a u g y3} e1 hu hn => by
      have hq := q
      rw [hn] at hq
      refine ⟨_, rfl, _, _, rfl, rfl, _, rfl, if_dec (fun z => ?_) fun z => ?_⟩
      · rw [if_pos (by omega)] at hq
        refine ⟨_, rfl, _, rfl, sz_ok (n := 3) (by decide), fun p hp => hq _ _ (e1.trans (Ex.new hp)) ?_⟩
        rw [enc_many]
        exact .tup (.inl (.inl upd_same)) (.cons (.str _) (.cons (.int _) (.cons ((Ex.new (T := T) hp).dp hu) .nil)))
      · rw [if_neg (by omega)] at hq
        exact ⟨_, rfl, hq _ _ e1 hu⟩
    cases f with
    | kind s =>
      obtain ⟨a, rfl, ha⟩ := at_kind hv
      refine if_word rfl ha (fun z => absurd z.symm n_mk) (fun _ => if_word rfl ha (fun z => absurd z.symm n_ak) (fun _ => ?_))
      refine ⟨_, rfl, if_word rfl ha (fun z => absurd z.symm n_ok) (fun _ => ?_)⟩
      exact fin (Ex.refl H) hv (normT_kind s m)
    | many k g =>
      obtain ⟨a, u, rfl, ha, hu⟩ := at_many hv
      refine if_word rfl ha (fun _ => ?_) (fun z => absurd rfl z)
      have w2 := Wf.many.mp hwf
      have h1 : 0 < m * k := Nat.mul_pos hm0 (by omega)
      have h2 : m * k ≤ B := by
        have := (Nat.le_div_iff_mul_le hm0).mp w2.2.1
        rw [Nat.mul_comm]; exact this
      refine ⟨_, rfl, a, _, 2, u, rfl, rfl, ha, atI_nat (j := 2) rfl, _, rfl, _, rfl, a, _, 1, .int (k : Int), rfl, rfl, ha, atI_nat (j := 1) rfl, _, _, rfl, rfl, .inr ?_, u, g, m * k, B, ?_, hu, hok.many, ?_, ?_, h1, h2, hB, ?_, hT, fun H' v' e1 hv' => q H' v' e1 ?_⟩
      · have := hok.two; omega
      · rw [Int.natCast_mul]; rfl
      · rw [names_many] at h5; exact h5
      · rw [depth_many] at hdep; omega
      · rw [← Nat.div_div_eq_div_mul]; exact w2.2.2
      · rw [normT_many]; exact hv'
    | node b ps =>
      obtain ⟨a, c, us, rfl, ha, hc, hu⟩ := at_node hv
      refine if_word rfl ha (fun z => absurd z (n_nm b)) (fun _ => ?_)
      have hl : ps.length ≤ 8 := hok.names_node
      have hdp : ∀ p ∈ ps, depth p < n := fun p hp => by
        rw [depth_node] at hdep
        have := depth_part hp
        omega
      have w2 := (Wf.node.mp hwf).2
      refine if_word rfl ha (fun z => ?_) (fun z => ?_)
      · rw [w_and] at z; subst z
        refine ⟨_, rfl, a, _, 1, .ref c, rfl, rfl, ha, atI_nat (j := 1) rfl, c, rfl, ⟨us, hc⟩, fun D hD => ?_⟩
        refine map_tup (T := T) hc hu (fun p => some (enc (normT p m))) (by omega) hD ?_ ?_
        · intro p x H' E N hp e hx _ hE
          exact ⟨rfl, _, rfl, _, rfl, x, p, m, B, rfl, hx, hok.part hp, part_len hp h5, hdp p hp, hm0, hmB, hB, w2 p hp, e.tabs hT, fun H3 v3 e3 h3 => hE _ rfl _ H3 e3 (flat_enc _) h3⟩
        · intro ys H1 e1 hD1 hy
          rw [fm_some, show (ps.map fun p => enc (normT p m)) = (ps.map fun p => normT p m).map enc by rw [List.map_map]; rfl] at hy
          refine ⟨true, D, ys, ps.map fun p => normT p m, rfl, .inl (.inl hD1), hy, ?_, by rw [List.length_map]; exact hl, e1.tabs hT, fun H2 v2 e2 h2 => q H2 v2 (e1.trans e2) ?_⟩
          · intro g hg
            obtain ⟨p, hp, rfl⟩ := List.mem_map.mp hg
            have nr := normT_nrm hm0 hmB (w2 p hp)
            exact ⟨(hok.part hp).nrm nr hB, nrm_depth nr (part_len hp h5)⟩
          · rw [normT_and]; exact h2
      · have z2 : b = false := by
          cases b
          · rfl
          · exact absurd rfl z
        subst z2
        refine ⟨_, rfl, if_word rfl ha (fun _ => ?_) (fun z => absurd rfl z)⟩
        refine ⟨_, rfl, a, _, 1, .ref c, rfl, rfl, ha, atI_nat (j := 1) rfl, c, rfl, ⟨us, hc⟩, fun D hD => ?_⟩
        have hb : 1 ≤ B / m := (Nat.one_le_div_iff hm0).mpr hmB
        have hB2 : B / m ≤ 12 := Nat.le_trans (Nat.div_le_self _ _) hB
        refine map_tup (T := T) hc hu (fun p => some (enc (normT p 1))) (by omega) hD ?_ ?_
        · intro p x H' E N hp e hx _ hE
          exact ⟨rfl, _, rfl, x, p, 1, B / m, rfl, hx, hok.part hp, part_len hp h5, hdp p hp, by decide, hb, hB2, by rw [Nat.div_one]; exact w2 p hp, e.tabs hT, fun H3 v3 e3 h3 => hE _ rfl _ H3 e3 (flat_enc _) h3⟩
        · intro ys H1 e1 hD1 hy
          rw [fm_some, show (ps.map fun p => enc (normT p 1)) = (ps.map fun p => normT p 1).map enc by rw [List.map_map]; rfl] at hy
          refine ⟨false, D, ys, ps.map fun p => normT p 1, rfl, .inl (.inl hD1), hy, ?_, by rw [List.length_map]; exact hl, e1.tabs hT, fun H2 v2 e2 h2 => ?_⟩
          · intro g hg
            obtain ⟨p, hp, rfl⟩ := List.mem_map.mp hg
            have nr := normT_nrm (B := B / m) (m := 1) (by decide) hb (by rw [Nat.div_one]; exact w2 p hp)
            exact ⟨(hok.part hp).nrm nr hB2, nrm_depth nr (part_len hp h5)⟩
          · exact fin (e1.trans e2) h2 (normT_or ps m)
/-! ### normal, normal_cut -/
def spNorm (T : Tl) (K : PySem.W.Frag) : Sp := fun vs H Q _ => ∃ (v : V) (f : Fm Str), vs = [v] ∧ Dp K H v (enc f) ∧ FmOk f ∧ f.names.length ≤ 5 ∧ depth f < 24 ∧ LamX.Tabs T H ∧ ∀ H' v', Ex T H H' → Dp K H' v' (enc (normT f 1)) → Q v' H'
theorem ok_normal (U : Txt K mg A D) (hL : LamOk mg base T (D 16) "joined.<locals>.<lambda>") : FnOk P w K mg base CX0 53 (A 18) (D 18) ["formula"] (spNorm T K) := by
  have G_normal_times : FnOk P w K mg base CX0 52 (A 17) (D 17) ["formula", "many"] (spNT T K 24) := ok_normal_times U hL 24
  refine (F_normal U).ok sc_normal (fun vs H Q E h => by obtain ⟨_, _, rfl, _⟩ := h; rfl) (fun cdv A' outer s H vs Q E hr h => ?_)
  obtain ⟨v, f, rfl, hv, hok, h5, hdep, hT, q⟩ := h
  refine ⟨_, PSs.nox (pss_one
      (ps_ret (pe_f G_normal_times hr (by omega) (g_normal_times U) (F_normal_times U).kp (b_normal_times U) (pa_cons (pv 0) (pa_cons pe_int pa_nil))))), ?_⟩
  exact ⟨_, rfl, v, f, 1, 12, rfl, hv, hok, h5, hdep, by decide, by decide, by decide, hok.wf, hT, q⟩
def spNC (T : Tl) (K : PySem.W.Frag) : Sp := fun vs H Q _ => ∃ (v : V) (f : Fm Str) (l : Addr) (L : List Str) (wb : Bool), vs = [v, .ref l, .str (if wb then "and" else "or")] ∧ Dp K H v (enc f) ∧ FmOk f ∧ f.names.length ≤ 5 ∧ depth f < 24 ∧ SqT K H l (L.map V.str) ∧ L.length < 64 ∧ LotOk L f.names ∧ LamX.Tabs T H ∧
  ∀ H' v', Ex T H H' → Dp K H' v' (oF ((cut L wb f).map fun g => normT g 1)) → Q v' H'
theorem ok_normal_cut (U : Txt K mg A D) (hL : LamOk mg base T (D 16) "joined.<locals>.<lambda>") : FnOk P w K mg base CX0 54 (A 32) (D 32) ["formula", "lot", "word"] (spNC T K) := by
  have G_normal : FnOk P w K mg base CX0 53 (A 18) (D 18) ["formula"] (spNorm T K) := ok_normal U hL
  have G_is_name_lot : FnOk P w K mg base CX0 2 (A 12) (D 12) ["value"] (spLot T K) := ok_is_name_lot U
  have G_kinds_of : FnOk P w K mg base CX0 25 (A 15) (D 15) ["formula"] (spKinds T K) := ok_kinds_of U
  have G_cut_formula : FnOk P w K mg base CX0 24 (A 31) (D 31) ["formula", "lot", "word"] (spCut T K 24) := ok_cut_formula U 24
  refine (F_normal_cut U).ok sc_normal_cut (fun vs H Q E h => by obtain ⟨_, _, _, _, _, rfl, _⟩ := h; rfl) (fun cdv A' outer s H vs Q E hr h => ?_)
  obtain ⟨v, f, l, L, wb, rfl, hv, hok, h5, hdep, hl, hlen, hLo, hT, q⟩ := h
  refine ⟨_, PSs.nox (pss_cons
      (ps_if (PW.pt (pw_or (pt_not (pt_val (pe_f G_is_name_lot hr (by omega) (g_is_name_lot U) (F_is_name_lot U).kp (b_is_name_lot U) (pa_cons (pv 1) pa_nil)))) (pw_or1 (pt_not (pt_val (pe_callB (kc_all K) (by rfl) (z_all U) boot_all (pa_cons (pe_lc (g := gName 4) (tt := tYes) rfl sc_normal_cut.nd (ki_tup K (pv 1)) (blkOk_by (N := N_normal_cut) (own := [("name", 4)]) (by kernel_rfl)) (fun _ _ _ _ _ => (pg_name (i := 4) sc_normal_cut.nd rfl (.inl rfl))) (fun _ _ _ _ _ => pts_nil) (fun _ _ _ _ _ => (pe_cmpR (ko_in K) (pv 4) (pe_f G_kinds_of hr (by omega) (g_kinds_of U) (F_kinds_of U).kp (b_kinds_of U) (pa_cons (pv 0) pa_nil)) rfl))) pa_nil)))))))
       (pss_one
       ps_never)
       pss_nil)
      (pss_cons
      (ps_set (i := 3) sc_normal_cut.nd rfl (.inl rfl) (pe_f G_cut_formula hr (by omega) (g_cut_formula U) (F_cut_formula U).kp (b_cut_formula U) (pa_cons (pv 0) (pa_cons (pv 1) (pa_cons (pv 2) pa_nil)))))
      (pss_one
      (ps_ret (pe_ifExp (pt_cmpR op_isN (pv 3) pe_non (nomark _)) pe_non (pe_f G_normal hr (by omega) (g_normal U) (F_normal U).kp (b_normal U) (pa_cons (pv 3) pa_nil))))))), ?_⟩
  have hnm : ∀ s ∈ L, IsNm s := fun s hs => hok.nm s (hLo.sub s hs)
  refine ⟨_, rfl, .ref l, rfl, .inl ⟨l, _, rfl, hl, by rw [List.length_map]; exact hlen, kd_strs hnm, fun H2 e2 => ⟨_, rfl, ?_⟩⟩⟩
  rw [lotB_names hnm hLo.so]
  refine ⟨_, rfl, l, rfl, ⟨_, e2.st hl⟩, fun D hD => ?_⟩
  refine map_tup (T := T) (e := PyData.str) (as := L) (e2.st hl) (dpa_of_strs _) (fun s => some (.bool true)) (by omega) hD ?_ ?_
  · intro s0 x H' E N hs e hx _ hE
    have := hx.at_str
    subst this
    refine ⟨rfl, _, rfl, _, rfl, v, f, rfl, (e2.trans e).dp hv, hok, hdep, fun H3 p f3 e3 h3 => ⟨p, _, rfl, .inr (.inl (.inl h3)), rfl, flat_strs _, ?_⟩⟩
    rw [in_strs, decide_eq_true (mem_sortN.mpr (hLo.sub s0 hs))]
    exact hE _ rfl _ H3 e3 rfl (.bl true)
  · intro ys H3 e3 h3 hy
    rw [fm_some] at hy
    have hb : ys = (L.map fun _ => true).map V.bl := dpa_bls (by rw [List.map_map]; exact hy)
    subst hb
    refine ⟨D, _, rfl, .inl (.inl h3), _, rfl, ?_⟩
    rw [show (L.map fun _ => true).all id = true by rw [List.all_map]; exact List.all_eq_true.mpr fun _ _ => rfl]
    have e23 := e2.trans e3
    refine ⟨_, rfl, _, rfl, _, rfl, v, f, l, L, wb, rfl, e23.dp hv, hok, hdep, Nat.le_refl _, e23.st hl, fun H4 v4 e4 h4 => ⟨_, rfl, rfl, _, rfl, ?_⟩⟩
    rw [oF_isN h4]
    have e24 := e23.trans e4
    cases hc : cut L wb f with
    | none =>
      rw [hc] at q
      exact q H4 _ e24 .non
    | some g =>
      rw [hc] at q h4
      have hg := hok.cut hc
      have hsub := (cut_wf hok.wf hc).2.1.length_le
      have hcd := cut_depth hc
      exact ⟨_, rfl, v4, g, rfl, h4, hg, by omega, by omega, e24.tabs hT, fun H5 v5 e5 h5 => q H5 v5 (e24.trans e5) h5⟩
def spFP (T : Tl) (K : PySem.W.Frag) (wb : Bool) : Sp := fun vs H Q _ => ∃ (v : V) (f : Fm Str) (l : Addr) (L : List Str), vs = [v, .ref l] ∧ Dp K H v (enc f) ∧ FmOk f ∧ f.names.length ≤ 5 ∧ depth f < 24 ∧ SqT K H l (L.map V.str) ∧ L.length < 64 ∧ LotOk L f.names ∧ LamX.Tabs T H ∧
  ∀ H' v', Ex T H H' → Dp K H' v' (oF ((cut L wb f).map fun g => normT g 1)) → Q v' H'
theorem ok_formula_lacking (U : Txt K mg A D) (hL : LamOk mg base T (D 16) "joined.<locals>.<lambda>") : FnOk P w K mg base CX0 55 (A 33) (D 33) ["formula", "lot"] (spFP T K true) := by
  have G_normal_cut : FnOk P w K mg base CX0 54 (A 32) (D 32) ["formula", "lot", "word"] (spNC T K) := ok_normal_cut U hL
  refine (F_formula_lacking U).ok sc_formula_lacking (fun vs H Q E h => by obtain ⟨_, _, _, _, rfl, _⟩ := h; rfl) (fun cdv A' outer s H vs Q E hr h => ?_)
  obtain ⟨v, f, l, L, rfl, hv, hok, h5, hdep, hl, hlen, hLo, hT, q⟩ := h
  refine ⟨_, PSs.nox (pss_one
      (ps_ret (pe_f G_normal_cut hr (by omega) (g_normal_cut U) (F_normal_cut U).kp (b_normal_cut U) (pa_cons (pv 0) (pa_cons (pv 1) (pa_cons pe_str pa_nil)))))), ?_⟩
  exact ⟨_, rfl, _, rfl, v, f, l, L, true, rfl, hv, hok, h5, hdep, hl, hlen, hLo, hT, q⟩
theorem ok_formula_plenty (U : Txt K mg A D) (hL : LamOk mg base T (D 16) "joined.<locals>.<lambda>") : FnOk P w K mg base CX0 55 (A 34) (D 34) ["formula", "lot"] (spFP T K false) := by
  have G_normal_cut : FnOk P w K mg base CX0 54 (A 32) (D 32) ["formula", "lot", "word"] (spNC T K) := ok_normal_cut U hL
  refine (F_formula_plenty U).ok sc_formula_plenty (fun vs H Q E h => by obtain ⟨_, _, _, _, rfl, _⟩ := h; rfl) (fun cdv A' outer s H vs Q E hr h => ?_)
  obtain ⟨v, f, l, L, rfl, hv, hok, h5, hdep, hl, hlen, hLo, hT, q⟩ := h
  refine ⟨_, PSs.nox (pss_one
      (ps_ret (pe_f G_normal_cut hr (by omega) (g_normal_cut U) (F_normal_cut U).kp (b_normal_cut U) (pa_cons (pv 0) (pa_cons (pv 1) (pa_cons pe_str pa_nil)))))), ?_⟩
  exact ⟨_, rfl, _, rfl, v, f, l, L, false, rfl, hv, hok, h5, hdep, hl, hlen, hLo, hT, q⟩
end
end K23
/-! V1: the heap of draws, as one thing that is read and written in _law_draw alone. -/
namespace K23
open PySem PySem.Spec PyProof.Rows L2
/-- the outer list, the inner list: what is true of their objects -/
def HpA (a l : Addr) : HO := .ext fun h => ∃ (s : Int) (t : Tok) (n : Nat), 0 ≤ s ∧ h.get? a = some { cls := .type "list", data := .seq [Value.ref l, Value.int s t].toArray n }
def HpL (l : Addr) : HO := .ext fun h => ∃ (ns : List Int) (its : List Value) (n : Nat), ns.length ≤ 100 ∧ (∀ x ∈ ns, 0 ≤ x) ∧ Vals (ns.map V.int) its ∧ h.get? l = some { cls := .type "list", data := .seq its.toArray n }
/-- a heap of draws stands at a -/
def Dh (H : Hp) (a : Addr) : Prop := ∃ l, l ≠ a ∧ H a = some (HpA a l) ∧ H l = some (HpL l)
theorem Dh.ex {T : Tl} {H H' : Hp} {a : Addr} (h : Dh H a) (e : Ex T H H') : Dh H' a := by
  obtain ⟨l, n, h1, h2⟩ := h
  exact ⟨l, n, e.ext h1, e.ext h2⟩
/-- opened -/
structure Op (H0 : Hp) (a l : Addr) (H : Hp) (ns : List Int) (s : Int) : Prop where
  out : H a = some (.lst [.ref l, .int s])
  inn : H l = some (.lst (ns.map V.int))
  few : ns.length ≤ 100
  pos : ∀ x ∈ ns, 0 ≤ x
  nn : 0 ≤ s
  rest : ∀ b o, b ≠ a → b ≠ l → H0 b = some o → H b = some o
section
variable {T : Tl} {P : Program} {w : World} {K : PySem.W.Frag} {mg : Str → Option Value} {base : Heap} {A : Nat → Addr} {D : Nat → FuncData}
def spDrawO : Sp := fun vs H Q _ => ∃ (a l : Addr) (m : Int) (ns : List Int) (s : Int), vs = [.ref a, .int m] ∧ l ≠ a ∧ Op H a l H ns s ∧ 0 < m ∧ m < 1073741824 ∧ ∀ H' ns' s' r, Op H a l H' ns' s' → 0 ≤ r → r < m → Q (.int r) H'
def spDraw (T : Tl) : Sp := fun vs H Q _ => ∃ (a : Addr) (m : Int), vs = [.ref a, .int m] ∧ Dh H a ∧ 0 < m ∧ m < 1073741824 ∧ ∀ H' r, Ex T H H' → 0 ≤ r → r < m → Q (.int r) H'
theorem vals_two_ref {l : Addr} {s : Int} {its : List Value} (r : Vals [V.ref l, V.int s] its) : ∃ t, its = [Value.ref l, Value.int s t] := by
  cases r with
  | cons r1 r2 =>
    cases r2 with
    | cons r3 r4 =>
      cases r4
      obtain ⟨t, rfl⟩ := r3
      exact ⟨t, by rw [show _ = Value.ref l from r1]⟩
theorem view_draw {k : Nat} {f : Addr} {fd : FuncData} (F : FnOk P w K mg base CX0 k f fd ["_law_heap_here", "_law_many"] spDrawO) : FnOk P w K mg base CX0 k f fd ["_law_heap_here", "_law_many"] (spDraw T) := by
  refine ⟨fun vs H Q E h => by obtain ⟨_, _, rfl, _⟩ := h; rfl, fun A outer s H args us vs Q E hr e0 hb r hsp => ?_⟩
  obtain ⟨a, m, rfl, ⟨l, nla, ha, hl⟩, hm0, hm1, q⟩ := hsp
  obtain ⟨⟨s0, t0, n0, hs0, hga⟩, _, sta⟩ := e0.hok a _ ha
  obtain ⟨⟨ns, its, n1, hn1, hpos, hv, hgl⟩, _, stl⟩ := e0.hok l _ hl
  let H2 : Hp := upd (upd H a (.lst [.ref l, .int s0])) l (.lst (ns.map V.int))
  have h2a : H2 a = some (.lst [.ref l, .int s0]) := by
    show upd (upd H a _) l _ a = _
    rw [upd_ne nla.symm, upd_same]
  have h2l : H2 l = some (.lst (ns.map V.int)) := upd_same
  have h2o : ∀ b, b ≠ a → b ≠ l → H2 b = H b := fun b h1 h2 => by
    show upd (upd H a _) l _ b = _
    rw [upd_ne h2, upd_ne h1]
  have none2 : ∀ b, H b = none → H2 b = none := fun b hb => by
    rw [h2o b (fun z => by rw [z, ha] at hb; cases hb) (fun z => by rw [z, hl] at hb; cases hb)]; exact hb
  have tup2 : ∀ b xs, H b = some (.tup xs) → H2 b = some (.tup xs) := fun b xs hb => by
    rw [h2o b (fun z => by rw [z, ha] at hb; cases hb) (fun z => by rw [z, hl] at hb; cases hb)]; exact hb
  have e2 : Env0 P w K mg base A outer s H2 := by
    refine ⟨e0.frames, e0.mod, fun b o hb => ⟨(e0.bs b o hb).1, none2 b (e0.bs b o hb).2⟩, e0.bsz, e0.funs, fun b hb => none2 b (e0.frf b hb), ?_, e0.bare⟩
    intro b o hb
    by_cases z1 : b = l
    · subst z1
      rw [h2l] at hb; cases hb
      exact ⟨Nat.le_trans (by rw [List.length_map]; exact hn1) (by decide), its, n1, hv, hgl⟩
    · by_cases z2 : b = a
      · subst z2
        rw [h2a] at hb; cases hb
        exact ⟨sz_ok (n := 2) (by decide), _, n0, .cons rfl (.cons ⟨t0, rfl⟩ .nil), hga⟩
      · rw [h2o b z2 z1] at hb
        exact (e0.hok b o hb).stay (fun c u _ g => g) (fun c hc => by
          rw [h2o c (fun z => by rw [z, ha] at hc; cases hc) (fun z => by rw [z, hl] at hc; cases hc)]; exact hc) tup2
  refine codeAny_mono (F.run A outer s H2 args us _ (fun v H' => ∃ r ns' s', v = .int r ∧ Op H2 a l H' ns' s' ∧ 0 ≤ r ∧ r < m) E hr e2 hb r ⟨a, l, m, ns, s0, rfl, nla, ⟨h2a, h2l, hn1, hpos, hs0, fun b o _ _ h => h⟩, hm0, hm1, fun H' ns' s' r h1 h2 h3 => ⟨r, ns', s', rfl, h1, h2, h3⟩⟩) fun rs s' hq => ?_
  cases rs with
  | error e => exact hq
  | ok fl =>
    cases fl with
    | ret u =>
      obtain ⟨v, H1, os, bare, un, hok, rv, rr, ns', s1, rfl, op, h0, h1⟩ := hq
      let H3 : Hp := upd (upd H1 a (HpA a l)) l (HpL l)
      have h3a : H3 a = some (HpA a l) := by
        show upd (upd H1 a _) l _ a = _
        rw [upd_ne nla.symm, upd_same]
      have h3l : H3 l = some (HpL l) := upd_same
      have h3o : ∀ b, b ≠ a → b ≠ l → H3 b = H1 b := fun b h1 h2 => by
        show upd (upd H1 a _) l _ b = _
        rw [upd_ne h2, upd_ne h1]
      have keep : ∀ b o, H b = some o → H3 b = some o := fun b o hb => by
        by_cases z1 : b = l
        · subst z1; rw [hl] at hb; rw [← hb]; exact h3l
        · by_cases z2 : b = a
          · subst z2; rw [ha] at hb; rw [← hb]; exact h3a
          · rw [h3o b z2 z1]; exact op.rest b o z2 z1 (by rw [h2o b z2 z1]; exact hb)
      have un2 : Un (frs outer) [] H H3 s.heap s'.heap := by
        refine ⟨fun b o g n => un.keep b o g (none2 b n), fun b o g n => un.slot b o g (none2 b n), fun b o g n x => ?_, un.there, fun b xs h => keep b _ h, fun b o u h => keep b _ h, fun b ps h => ⟨#[], by rw [Array.append_empty]; exact keep b _ h⟩⟩
        rw [h3o b (fun z => by rw [z, ha] at n; cases n) (fun z => by rw [z, hl] at n; cases n)]
        exact un.free b o g (none2 b n) x
      have hok2 : HOk P w H3 s'.heap := by
        intro b o hb
        by_cases z1 : b = l
        · subst z1
          rw [h3l] at hb; cases hb
          obtain ⟨_, its', n', hv', hg'⟩ := hok b _ op.inn
          exact ⟨⟨ns', its', n', op.few, op.pos, hv', hg'⟩, ⟨_, hg'⟩, stl⟩
        · by_cases z2 : b = a
          · subst z2
            rw [h3a] at hb; cases hb
            obtain ⟨_, its', n', hv', hg'⟩ := hok b _ op.out
            obtain ⟨t', rfl⟩ := vals_two_ref hv'
            exact ⟨⟨s1, t', n', op.nn, hg'⟩, ⟨_, hg'⟩, sta⟩
          · rw [h3o b z2 z1] at hb
            refine (hok b o hb).stay (fun c u _ g => g) (fun c hc => ?_) fun c xs hc => ?_
            · rw [h3o c (fun z => by rw [z, op.out] at hc; cases hc) (fun z => by rw [z, op.inn] at hc; cases hc)]; exact hc
            · rw [h3o c (fun z => by rw [z, op.out] at hc; cases hc) (fun z => by rw [z, op.inn] at hc; cases hc)]; exact hc
      exact ⟨_, H3, os, bare, un2, hok2, rv, q H3 rr (.of keep) h0 h1⟩
    | next => exact hq
    | brk => exact hq
    | cont => exact hq
/-! ### _law_draw -/
theorem Op.new {H0 H H' : Hp} {a l : Addr} {ns : List Int} {s : Int} (h : Op H0 a l H ns s) (e : ∀ b o, H b = some o → H' b = some o) : Op H0 a l H' ns s :=
  ⟨e _ _ h.out, e _ _ h.inn, h.few, h.pos, h.nn, fun b o h1 h2 h3 => e _ _ (h.rest b o h1 h2 h3)⟩
theorem upd_keeps {H : Hp} {p : Addr} {o : HO} (h : H p = none) : ∀ b u, H b = some u → upd H p o b = some u := fun b u e => by rw [upd_ne (ne_of_none e h)]; exact e
theorem int_last {ns : List Int} (h : ns ≠ []) : ∃ init z, ns = init ++ [z] := ⟨ns.dropLast, ns.getLast h, (List.dropLast_concat_getLast h).symm⟩
theorem ok_law_draw (U : Txt K mg A D) : FnOk P w K mg base CX0 1 (A 42) (D 42) ["_law_heap_here", "_law_many"] spDrawO := by
  refine (F_l_draw U).ok sc_l_draw (fun vs H Q E h => by obtain ⟨_, _, _, _, _, rfl, _⟩ := h; rfl) (fun cdv A' outer s H vs Q E hr h => ?_)
  obtain ⟨a, l, m, ns, s0, rfl, nla, op, hm0, hm1, q⟩ := h
  refine ⟨_, PSs.nox (pss_cons
      (ps_while PassesOwn.never (PW.pt (pw_and (pt_cmpR (ko_neD K hr.units) (pe_ix (kx_list K) (pv 0) pe_int (fun _ _ => rfl)) (pe_lst pa_nil) (nomark _)) (pw_and1 (pt_cmpR op_eq (pe_ix (kx_list K) (pe_ix (kx_list K) (pv 0) pe_int (fun _ _ => rfl)) (pe_un un_neg pe_int) (fun _ _ => rfl)) pe_int (nomark _)))))
       (pss_one
       (ps_expr (kb_m0 K PySem.F.plainAttrs_list PySem.F.slot_list_pop PySem.F.type_list_pop mt_pop (pe_ix (kx_list K) (pv 0) pe_int (fun _ _ => rfl))))))
      (pss_cons
      (ps_if (pt_cmpR (ko_neD K hr.units) (pe_ix (kx_list K) (pv 0) pe_int (fun _ _ => rfl)) (pe_lst pa_nil) (nomark _))
       (pss_cons
       (ps_set (i := 2) sc_l_draw.nd rfl (.inl rfl) (kb_m0 K PySem.F.plainAttrs_list PySem.F.slot_list_pop PySem.F.type_list_pop mt_pop (pe_ix (kx_list K) (pv 0) pe_int (fun _ _ => rfl))))
       (pss_cons
       (ps_expr (kb_m K PySem.F.plainAttrs_list PySem.F.slot_list_append PySem.F.type_list_append mt_append (pe_ix (kx_list K) (pv 0) pe_int (fun _ _ => rfl)) (pa_cons (pe_op op_fdiv (pv 2) (pv 1)) pa_nil)))
       (pss_one
       (ps_ret (pe_op op_mod (pe_callTy (call_int1) (by rfl) (z_int U) boot_int (pa_cons (pv 2) pa_nil)) (pv 1))))))
       pss_nil)
      (pss_cons
      (ps_asg (pe_op op_mod (pe_callTy (call_int1) (by rfl) (z_int U) boot_int (pa_cons (pe_op op_add (pe_op op_mul (pe_ix (kx_list K) (pv 0) pe_int (fun _ _ => rfl)) pe_int) pe_int) pa_nil)) pe_int) (pg_sub (pv 0) pe_int set_list))
      (pss_one
      (ps_ret (pe_op op_mod (pe_callTy (call_int1) (by rfl) (z_int U) boot_int (pa_cons (pe_op op_fdiv (pe_ix (kx_list K) (pv 0) pe_int (fun _ _ => rfl)) pe_int) pa_nil)) (pv 1))))))), ?_⟩
  have e0 := op
  -- the list is not empty: a test
  have test : ∀ {H1 : Hp} {ns1 : List Int} {s1 : Int} {y : Option V} {Q' : Bool → Hp → Prop}, Op H a l H1 ns1 s1 → (∀ H2, Op H a l H2 ns1 s1 → Q' (decide (ns1 ≠ [])) H2) →
      tTest (tOp (rNeD K) (tOp (rIxL K) (tVar 0) (tC (.int 0))) (tLst tNil)) [some (.ref a), some (.int m), y] H1 Q' := fun {H1 ns1 s1 y Q'} o1 k => by
    refine ⟨_, rfl, a, _, 0, .ref l, rfl, rfl, .inl (.inl o1.out), atI_nat (j := 0) rfl, Nat.zero_le _, fun p hp => ?_⟩
    have o2 := o1.new (upd_keeps (o := .lst []) hp)
    refine ⟨.list (ns1.map .int), .list [], .lst (.inl (.inl o2.inn)) (dpa_of_ints _), .lst (.inl (.inl upd_same)) .nil, shp_lst_ints _, shp_lst_ints [], _, rfl, ?_⟩
    rw [eqv_nil, show (!decide (ns1.map PyData.int = [])) = decide (ns1 ≠ []) by
      rw [← decide_not]; exact decide_eq_decide.mpr (not_congr List.map_eq_nil_iff)]
    exact k _ o2
  have inner : ∀ {H1 : Hp} {ns1 : List Int} {s1 : Int} {y : Option V} {Q' : VK}, Op H a l H1 ns1 s1 → Q' (.ref l) H1 → tOp (rIxL K) (tVar 0) (tC (.int 0)) [some (.ref a), some (.int m), y] H1 Q' := fun {H1 ns1 s1 y Q'} o1 k =>
    ⟨_, rfl, a, _, 0, .ref l, rfl, rfl, .inl (.inl o1.out), atI_nat (j := 0) rfl, k⟩
  have popped : ∀ {H1 : Hp} {init : List Int} {z s1 : Int}, Op H a l H1 (init ++ [z]) s1 → Op H a l (upd H1 l (.lst (init.map V.int))) init s1 := fun {H1 init z s1} o1 => by
    refine ⟨by rw [upd_ne nla.symm]; exact o1.out, upd_same, by have := o1.few; rw [List.length_append] at this; omega, fun x hx => o1.pos x (List.mem_append_left _ hx), o1.nn, fun b o h1 h2 h3 => by rw [upd_ne h2]; exact o1.rest b o h1 h2 h3⟩
  refine ⟨fun n σ H' => σ = [some (.ref a), some (.int m), none] ∧ ∃ ns1 s1, ns1.length = n ∧ Op H a l H' ns1 s1, ⟨ns.length, rfl, ns, s0, rfl, op⟩, ?_⟩
  rintro n σ H1 ⟨rfl, ns1, s1, hn, o1⟩
  refine test o1 fun H2 o2 => if_dec (fun z => ?_) fun z => ?_
  · obtain ⟨init, y, rfl⟩ := int_last z
    refine inner o2 ⟨1, rfl, l, _, -1, .int y, rfl, rfl, .inl (.inl o2.inn), by rw [List.map_append]; exact atI_last _ _, rfl, _, rfl, ?_⟩
    rw [show decide (V.int y = V.int 0) = decide (y = 0) from decide_eq_decide.mpr ⟨V.int.inj, fun z => by rw [z]⟩]
    refine if_dec (fun z2 => ?_) fun z2 => ?_
    · -- pop the 0
      refine ⟨fun σ' H' => σ' = [some (.ref a), some (.int m), none] ∧ ∃ s2, Op H a l H' init s2, fun σ' H' ⟨h1, s2, h2⟩ => ⟨init.length, by rw [← hn, List.length_append, List.length_singleton]; omega, h1, init, s2, rfl, h2⟩, ?_⟩
      refine inner o2 ⟨.inl ⟨rfl, _, .inl (.inl o2.inn)⟩, l, _, .int y, rfl, rfl, o2.inn, ?_, rfl, s1, ?_⟩
      · rw [List.map_append, List.length_append]; simp
      · rw [List.map_append, show (init.map V.int ++ [y].map V.int).dropLast = init.map V.int by simp]
        exact popped o2
    · -- the cells
      refine test o2 fun H3 o3 => if_dec (fun _ => ?_) fun z3 => absurd z z3
      refine inner o3 ⟨.inl ⟨rfl, _, .inl (.inl o3.inn)⟩, l, _, .int y, rfl, rfl, o3.inn, ?_, ?_⟩
      · rw [List.map_append, List.length_append]; simp
      · rw [List.map_append, show (init.map V.int ++ [y].map V.int).dropLast = init.map V.int by simp]
        have o4 := popped o3
        have hy := o3.pos y (by simp)
        refine inner o4 ⟨.inl ⟨rfl, _, .inl (.inl o4.inn)⟩, _, rfl, _, rfl, y, m, rfl, rfl, ⟨hm0, hm1⟩, l, _, _, rfl, rfl, o4.inn, ?_, ?_⟩
        · rw [List.length_map]; exact sz_lt (by have := o4.few; omega)
        · have o5 : Op H a l (upd (upd H3 l (.lst (init.map V.int))) l (.lst (init.map V.int ++ [.int (y / m)]))) (init ++ [y / m]) s1 := by
            refine ⟨by rw [upd_ne nla.symm]; exact o4.out, by rw [upd_same, List.map_append]; rfl, by have := o3.few; rw [List.length_append] at this ⊢; exact this, fun x hx => ?_, o4.nn, fun b o h1 h2 h3 => by rw [upd_ne h2]; exact o4.rest b o h1 h2 h3⟩
            rcases List.mem_append.mp hx with hx | hx
            · exact o4.pos x hx
            · rw [List.mem_singleton.mp hx]; exact Int.ediv_nonneg hy (Int.le_of_lt hm0)
          refine ⟨_, rfl, .inl ⟨y, rfl, _, rfl, y, m, rfl, rfl, hm0, q _ _ _ _ o5 (Int.emod_nonneg _ (by omega)) (Int.emod_lt_of_pos _ hm0)⟩⟩
  · -- no cells: stir
    refine test o2 fun H3 o3 => if_dec (fun z3 => absurd z3 z) fun _ => ?_
    refine ⟨_, rfl, a, _, 1, .int s1, rfl, rfl, .inl (.inl o3.out), atI_nat (j := 1) rfl, s1, 48271, rfl, rfl, .inr (by omega), _, _, rfl, rfl, .inl ⟨_, rfl, _, 2147483647, rfl, rfl, (by show (0 : Int) < 2147483647; decide), ?_⟩⟩
    refine ⟨_, rfl, a, _, 1, 1, rfl, rfl, o3.out, rfl, ?_⟩
    have hs2 : 0 ≤ (s1 * 48271 + 11) % 2147483647 := Int.emod_nonneg _ (by decide)
    have o4 : Op H a l (upd H3 a (.lst [.ref l, .int ((s1 * 48271 + 11) % 2147483647)])) ns1 ((s1 * 48271 + 11) % 2147483647) :=
      ⟨upd_same, by rw [upd_ne nla]; exact o3.inn, o3.few, o3.pos, hs2, fun b o h1 h2 h3 => by rw [upd_ne h1]; exact o3.rest b o h1 h2 h3⟩
    refine ⟨_, rfl, a, _, 1, .int ((s1 * 48271 + 11) % 2147483647), rfl, rfl, .inl (.inl o4.out), atI_nat (j := 1) rfl, _, 64, rfl, rfl, ⟨by decide, by decide⟩, .inl ⟨_, rfl, _, rfl, _, m, rfl, rfl, hm0, ?_⟩⟩
    exact q _ _ _ _ o4 (Int.emod_nonneg _ (by omega)) (Int.emod_lt_of_pos _ hm0)
theorem ok_draw (U : Txt K mg A D) : FnOk P w K mg base CX0 1 (A 42) (D 42) ["_law_heap_here", "_law_many"] (spDraw T) := view_draw (ok_law_draw U)
end
end K23
/-! V2: _law_pick, _law_amount, _law_formula. -/
namespace K23
open PySem PySem.Spec PyProof.Rows L2
section
variable {T : Tl} {P : Program} {w : World} {K : PySem.W.Frag} {mg : Str → Option Value} {base : Heap} {A : Nat → Addr} {D : Nat → FuncData}
def spPick (T : Tl) (K : PySem.W.Frag) : Sp := fun vs H Q _ => ∃ (a l : Addr) (xs : List V), vs = [.ref a, .ref l] ∧ Dh H a ∧ (SqL K H l xs ∨ SqT K H l xs) ∧ 0 < xs.length ∧ xs.length ≤ 1000 ∧ ∀ H' x (j : Nat), Ex T H H' → xs[j]? = some x → Q x H'
theorem ok_pick (U : Txt K mg A D) : FnOk P w K mg base CX0 2 (A 43) (D 43) ["_law_heap_here", "_law_some"] (spPick T K) := by
  have G_l_draw : FnOk P w K mg base CX0 1 (A 42) (D 42) ["_law_heap_here", "_law_many"] (spDraw T) := ok_draw U
  refine (F_l_pick U).ok sc_l_pick (fun vs H Q E h => by obtain ⟨_, _, _, rfl, _⟩ := h; rfl) (fun cdv A' outer s H vs Q E hr h => ?_)
  obtain ⟨a, l, xs, rfl, hD, hx, h0, h1, q⟩ := h
  refine ⟨_, PSs.nox (pss_one
      (ps_ret (pe_ix (kx_seq K) (pv 1) (pe_f G_l_draw hr (by omega) (g_l_draw U) (F_l_draw U).kp (b_l_draw U) (pa_cons (pv 0) (pa_cons (pe_callB (kc_len K) (by rfl) (z_len U) boot_len (pa_cons (pv 1) pa_nil)) pa_nil))) (fun _ _ => rfl)))), ?_⟩
  refine ⟨_, rfl, _, rfl, _, rfl, l, xs, rfl, hx, a, _, rfl, hD, by omega, by omega, fun H' r e r0 r1 => ?_⟩
  have hr : r.toNat < xs.length := by omega
  have hg : atI xs r = some xs[r.toNat] := by
    have := atI_nat (xs := xs) (j := r.toNat) (List.getElem?_eq_getElem hr)
    rwa [Int.toNat_of_nonneg r0] at this
  rcases hx with hx | hx
  · exact .inl ⟨l, xs, r, _, rfl, rfl, e.sl hx, hg, q H' _ r.toNat e (List.getElem?_eq_getElem hr)⟩
  · exact .inr (.inl ⟨l, xs, r, _, rfl, rfl, e.st hx, hg, q H' _ r.toNat e (List.getElem?_eq_getElem hr)⟩)
def spAmount (T : Tl) : Sp := fun vs H Q _ => ∃ (a : Addr), vs = [.ref a] ∧ Dh H a ∧ ∀ H' r, Ex T H H' → 0 ≤ r → r ≤ 10 ^ 18 → Q (.int r) H'
theorem ok_amount (U : Txt K mg A D) : FnOk P w K mg base CX0 2 (A 50) (D 50) ["_law_heap_here"] (spAmount T) := by
  have G_l_draw : FnOk P w K mg base CX0 1 (A 42) (D 42) ["_law_heap_here", "_law_many"] (spDraw T) := ok_draw U
  refine (F_l_amount U).ok sc_l_amount (fun vs H Q E h => by obtain ⟨_, rfl, _⟩ := h; rfl) (fun cdv A' outer s H vs Q E hr h => ?_)
  obtain ⟨a, rfl, hD, q⟩ := h
  refine ⟨_, PSs.nox (pss_cons
      (ps_set (i := 1) sc_l_amount.nd rfl (.inl rfl) (pe_f G_l_draw hr (by omega) (g_l_draw U) (F_l_draw U).kp (b_l_draw U) (pa_cons (pv 0) (pa_cons pe_int pa_nil))))
      (pss_cons
      (ps_if (pt_cmpR op_lt (pv 1) pe_int (nomark _))
       (pss_one
       (ps_ret (pe_f G_l_draw hr (by omega) (g_l_draw U) (F_l_draw U).kp (b_l_draw U) (pa_cons (pv 0) (pa_cons pe_int pa_nil)))))
       pss_nil)
      (pss_cons
      (ps_if (pt_cmpR op_lt (pv 1) pe_int (nomark _))
       (pss_one
       (ps_ret (pe_f G_l_draw hr (by omega) (g_l_draw U) (F_l_draw U).kp (b_l_draw U) (pa_cons (pv 0) (pa_cons pe_int pa_nil)))))
       pss_nil)
      (pss_one
      (ps_ret (pe_ifExp (pt_cmpR op_eq (pv 1) pe_int (nomark _)) (pe_op op_mul (pe_f G_l_draw hr (by omega) (g_l_draw U) (F_l_draw U).kp (b_l_draw U) (pa_cons (pv 0) (pa_cons (pe_op op_pow pe_int pe_int) pa_nil))) (pe_f G_l_draw hr (by omega) (g_l_draw U) (F_l_draw U).kp (b_l_draw U) (pa_cons (pv 0) (pa_cons (pe_op op_pow pe_int pe_int) pa_nil)))) (pe_op op_sub (pe_op op_pow pe_int pe_int) (pe_f G_l_draw hr (by omega) (g_l_draw U) (F_l_draw U).kp (b_l_draw U) (pa_cons (pv 0) (pa_cons pe_int pa_nil)))))))))), ?_⟩
  have pw : ((10 : Int) ^ (9 : Int).toNat) = 1000000000 := by decide
  have pw18 : ((10 : Int) ^ (18 : Int).toNat) = 10 ^ 18 := rfl
  refine ⟨_, rfl, a, 7, rfl, hD, by decide, by decide, fun H1 r e1 r0 r1 => ?_⟩
  refine ⟨_, rfl, r, 3, rfl, rfl, _, rfl, if_dec (fun z => ?_) fun z => ?_⟩
  · exact ⟨_, rfl, a, 6, rfl, hD.ex e1, by decide, by decide, fun H2 x e2 x0 x1 => q H2 x (e1.trans e2) x0 (by omega)⟩
  refine ⟨_, rfl, r, 5, rfl, rfl, _, rfl, if_dec (fun z => ?_) fun z => ?_⟩
  · exact ⟨_, rfl, a, 90, rfl, hD.ex e1, by decide, by decide, fun H2 x e2 x0 x1 => q H2 x (e1.trans e2) x0 (by omega)⟩
  refine ⟨_, rfl, rfl, _, rfl, if_dec (fun z => ?_) fun z => ?_⟩
  · refine ⟨_, rfl, 10, 9, rfl, rfl, ⟨by decide, by decide, by decide⟩, a, _, rfl, hD.ex e1, by decide, by decide, fun H2 x e2 x0 x1 => ?_⟩
    refine ⟨_, rfl, 10, 9, rfl, rfl, ⟨by decide, by decide, by decide⟩, a, _, rfl, (hD.ex e1).ex e2, by decide, by decide, fun H3 y e3 y0 y1 => ?_⟩
    rw [pw] at x1 y1
    refine ⟨x, y, rfl, rfl, .inl ⟨by omega, by omega⟩, q H3 _ ((e1.trans e2).trans e3) (Int.mul_nonneg x0 y0) ?_⟩
    have h1 : x * y ≤ 1000000000 * y := Int.mul_le_mul_of_nonneg_right (by omega) y0
    omega
  · refine ⟨10, 18, rfl, rfl, ⟨by decide, by decide, by decide⟩, _, rfl, a, 3, rfl, hD.ex e1, by decide, by decide, fun H2 x e2 x0 x1 => ⟨_, x, rfl, rfl, q H2 _ (e1.trans e2) ?_ ?_⟩⟩
    · rw [pw18]; omega
    · rw [pw18]; omega
/-! ### _law_formula -/
/-- an if whose outcome is open: by what is known of the heap behind the test -/
theorem ifS_cps {c : TT} {t u : TS} {D : Ends} {σ : L2.St} {H : Hp} (C1 C0 : Hp → Prop) (hc : ∀ R : Bool → Hp → Prop, (∀ H1, C1 H1 → R true H1) → (∀ H1, C0 H1 → R false H1) → c σ H R) (ht : ∀ H1, C1 H1 → t D σ H1) (hu : ∀ H1, C0 H1 → u D σ H1) : tIfS c t u D σ H :=
  hc _ (fun H1 h => by rw [if_pos rfl]; exact ht H1 h) (fun H1 h => by rw [if_neg (by decide)]; exact hu H1 h)
/-- a list that stood before what is new -/
theorem sl_fr {H H' : Hp} {p l : Addr} {xs : List V} (e : Ex T H H') (f : Fr H p) (h : SqL K H l xs) (u : HO) : SqL K (upd H' p u) l xs := by
  rcases h with (h | ⟨o, h⟩) | h
  · exact .inl (.inl (by rw [upd_ne (fun z => by obtain ⟨ps, q⟩ := f _ (z ▸ h); cases q)]; exact e.lst h))
  · exact .inl (.inr ⟨o, by rw [upd_ne (fun z => by obtain ⟨ps, q⟩ := f _ (z ▸ h); cases q)]; exact e.keep _ _ h fun _ z => by cases z⟩)
  · exact .inr h
theorem cut_take (xs : List V) (k : Nat) : cutV xs none (some (k : Int)) = xs.take k := by
  unfold cutV
  rw [HT.sIx_none, HT.sIx_nat, List.drop_zero, Nat.sub_zero]
  rcases Nat.le_total k xs.length with h | h
  · rw [Nat.min_eq_left h]
  · rw [Nat.min_eq_right h, List.take_of_length_le h, List.take_length]
theorem cut_drop (xs : List V) (k : Nat) : cutV xs (some (k : Int)) none = xs.drop k := by
  unfold cutV
  rw [HT.sIx_none, HT.sIx_nat]
  rcases Nat.le_total k xs.length with h | h
  · rw [Nat.min_eq_left h]
    exact List.take_of_length_le (by rw [List.length_drop]; omega)
  · rw [Nat.min_eq_right h, List.drop_length, List.drop_of_length_le h, List.take_nil]
def spForm (T : Tl) (K : PySem.W.Frag) (n : Nat) : Sp := fun vs H Q _ => ∃ (a l : Addr) (ns : List Str) (r : Nat), vs = [.ref a, .ref l, .int (r : Int)] ∧ Dh H a ∧ SqL K H l (ns.map V.str) ∧ 1 ≤ ns.length ∧ ns.length ≤ 5 ∧ 1 ≤ r ∧ r ≤ 12 ∧ r + ns.length < n ∧
  ∀ H' v f, Ex T H H' → Dp K H' v (enc f) → Wf r f → f.names = ns → depth f ≤ r + ns.length → Q v H'
theorem ok_formula (U : Txt K mg A D) : ∀ n, FnOk P w K mg base CX0 (n + 2) (A 45) (D 45) ["_law_heap_here", "_law_names_here", "_law_room"] (spForm T K n)
  | 0 => ⟨fun vs H Q E h => by obtain ⟨_, _, _, _, _, _, _, _, _, _, _, h, _⟩ := h; omega, fun _ _ _ H _ _ vs Q E _ _ _ _ h => by obtain ⟨_, _, _, _, _, _, _, _, _, _, _, h, _⟩ := h; omega⟩
  | n + 1 => by
    have G_l_formula : FnOk P w K mg base CX0 (n + 2) (A 45) (D 45) ["_law_heap_here", "_law_names_here", "_law_room"] (spForm T K n) := ok_formula U n
    have G_l_draw : FnOk P w K mg base CX0 1 (A 42) (D 42) ["_law_heap_here", "_law_many"] (spDraw T) := ok_draw U
    have G_l_pick : FnOk P w K mg base CX0 2 (A 43) (D 43) ["_law_heap_here", "_law_some"] (spPick T K) := ok_pick U
    refine FnOk.mono ((F_l_formula U).ok (k := n + 2) sc_l_formula (fun vs H Q E h => by obtain ⟨_, _, _, _, rfl, _⟩ := h; rfl) (fun cdv A' outer s H vs Q E hr h => ?_)) (by omega)
    obtain ⟨a, l, ns, r, rfl, hD, hl, n1, n5, r1, r12, hm, q⟩ := h
    refine ⟨_, PSs.nox (pss_cons
      (ps_if (PW.pt (pw_and (pt_cmpR op_gt (pv 2) pe_int (nomark _)) (pw_and1 (pt_cmpR op_eq (pe_f G_l_draw hr (by omega) (g_l_draw U) (F_l_draw U).kp (b_l_draw U) (pa_cons (pv 0) (pa_cons pe_int pa_nil))) pe_int (nomark _)))))
       (pss_cons
       (ps_set (i := 3) sc_l_formula.nd rfl (.inl rfl) (pe_op op_add pe_int (pe_f G_l_draw hr (by omega) (g_l_draw U) (F_l_draw U).kp (b_l_draw U) (pa_cons (pv 0) (pa_cons (pe_f G_l_pick hr (by omega) (g_l_pick U) (F_l_pick U).kp (b_l_pick U) (pa_cons (pv 0) (pa_cons (pe_lst (pa_cons (pe_callB (call_min2 rfl) (by rfl) (z_min U) boot_min (pa_cons (pe_op op_sub (pv 2) pe_int) (pa_cons pe_int pa_nil))) (pa_cons (pe_op op_sub (pv 2) pe_int) pa_nil))) pa_nil))) pa_nil)))))
       (pss_one
       (ps_ret (pe_tup (pa_cons pe_str (pa_cons (pv 3) (pa_cons (pe_f G_l_formula hr (by omega) (g_l_formula U) (F_l_formula U).kp (b_l_formula U) (pa_cons (pv 0) (pa_cons (pv 1) (pa_cons (pe_op op_fdiv (pv 2) (pv 3)) pa_nil)))) pa_nil)))))))
       pss_nil)
      (pss_cons
      (ps_if (pt_cmpR op_eq (pe_callB (kc_len K) (by rfl) (z_len U) boot_len (pa_cons (pv 1) pa_nil)) pe_int (nomark _))
       (pss_one
       (ps_ret (pe_tup (pa_cons pe_str (pa_cons (pe_ix (kx_list K) (pv 1) pe_int (fun _ _ => rfl)) pa_nil)))))
       pss_nil)
      (pss_cons
      (ps_asg (pe_tup (pa_cons (pe_f G_l_pick hr (by omega) (g_l_pick U) (F_l_pick U).kp (b_l_pick U) (pa_cons (pv 0) (pa_cons (pe_lst (pa_cons pe_str (pa_cons pe_str pa_nil))) pa_nil))) (pa_cons (pe_op op_add pe_int (pe_f G_l_draw hr (by omega) (g_l_draw U) (F_l_draw U).kp (b_l_draw U) (pa_cons (pv 0) (pa_cons (pe_callB (call_min2 rfl) (by rfl) (z_min U) boot_min (pa_cons pe_int (pa_cons (pe_op op_sub (pe_callB (kc_len K) (by rfl) (z_len U) boot_len (pa_cons (pv 1) pa_nil)) pe_int) pa_nil))) pa_nil)))) (pa_cons (pv 1) (pa_cons (pe_lst pa_nil) pa_nil))))) (kg_tup K (n := 4) (pgs_cons (pg_name (i := 4) sc_l_formula.nd rfl (.inl rfl)) (pgs_cons (pg_name (i := 5) sc_l_formula.nd rfl (.inl rfl)) (pgs_cons (pg_name (i := 6) sc_l_formula.nd rfl (.inl rfl)) (pgs_cons (pg_name (i := 7) sc_l_formula.nd rfl (.inl rfl)) pgs_nil))))))
      (pss_cons
      (ps_for PassesOwn.never rfl (pi_range1 (by rfl) (z_range U) (pa_cons (pe_op op_sub (pv 5) pe_int) pa_nil)) (pg_name (i := 8) sc_l_formula.nd rfl (.inl rfl))
       (pss_cons
       (ps_set (i := 9) sc_l_formula.nd rfl (.inl rfl) (pe_op op_add pe_int (pe_f G_l_draw hr (by omega) (g_l_draw U) (F_l_draw U).kp (b_l_draw U) (pa_cons (pv 0) (pa_cons (pe_op op_add (pe_op op_add (pe_op op_sub (pe_callB (kc_len K) (by rfl) (z_len U) boot_len (pa_cons (pv 6) pa_nil)) (pv 5)) (pv 8)) pe_int) pa_nil)))))
       (pss_cons
       (ps_expr (kb_m K PySem.F.plainAttrs_list PySem.F.slot_list_append PySem.F.type_list_append mt_append (pv 7) (pa_cons (pe_f G_l_formula hr (by omega) (g_l_formula U) (F_l_formula U).kp (b_l_formula U) (pa_cons (pv 0) (pa_cons (pe_slice (ks_list K) (pv 6) po_none (po_some (pv 9))) (pa_cons (pv 2) pa_nil)))) pa_nil)))
       (pss_one
       (ps_set (i := 6) sc_l_formula.nd rfl (.inl rfl) (pe_slice (ks_list K) (pv 6) (po_some (pv 9)) po_none))))))
      (pss_one
      (ps_ret (pe_tup (pa_cons (pv 4) (pa_cons (pe_callTy (kc_tuple K) (by rfl) (z_tuple U) boot_tuple (pa_cons (pe_op op_cat (pv 7) (pe_lst (pa_cons (pe_f G_l_formula hr (by omega) (g_l_formula U) (F_l_formula U).kp (b_l_formula U) (pa_cons (pv 0) (pa_cons (pv 6) (pa_cons (pv 2) pa_nil)))) pa_nil))) pa_nil)) pa_nil))))))))), ?_⟩
    have h62 : (4611686018427387904 : Int) = 2 ^ 62 := by decide
    refine ifS_cps (fun H1 => 1 < r ∧ Ex T H H1) (Ex T H) (fun R h1 h0 => ?_) (fun H1 h => ?_) (fun H1 e1 => ?_)
    · refine ⟨_, rfl, (r : Int), 1, rfl, rfl, _, rfl, ?_⟩
      by_cases z : 1 < r
      · rw [decide_eq_true (show (1 : Int) < (r : Int) by omega)]
        refine ⟨_, rfl, a, 3, rfl, hD, by decide, by decide, fun H1 x e1 x0 x1 => ⟨rfl, _, rfl, ?_⟩⟩
        cases hx : decide (V.int x = V.int 0) with
        | true => exact h1 H1 ⟨z, e1⟩
        | false => exact h0 H1 e1
      · rw [decide_eq_false (show ¬ (1 : Int) < (r : Int) by omega)]
        exact h0 H (Ex.refl H)
    · -- many
      obtain ⟨z, e1⟩ := h
      have hD1 := hD.ex e1
      refine ⟨_, rfl, _, rfl, _, rfl, (r : Int), 1, rfl, rfl, (r : Int) - 1, 3, rfl, ?_⟩
      refine ⟨_, rfl, (r : Int), 1, rfl, rfl, sz_ok (n := 2) (by decide), fun p hp => ?_⟩
      have e2 : Ex T H (upd H1 p (.lst [.int (if (3 : Int) < (r : Int) - 1 then 3 else (r : Int) - 1), .int ((r : Int) - 1)])) := e1.trans (Ex.new hp)
      refine ⟨a, p, _, rfl, hD.ex e2, .inl (.inl (.inl upd_same)), Nat.succ_pos 1, Nat.le_of_ble_eq_true rfl, fun H2 x j e3 hx => ?_⟩
      obtain ⟨b, rfl, hb1, hb2⟩ : ∃ b : Int, x = .int b ∧ 0 < b ∧ b ≤ (r : Int) - 1 := by
        match j, hx with
        | 0, hx =>
          have e := Option.some.inj hx
          refine ⟨_, e.symm, ?_, ?_⟩ <;> split <;> omega
        | 1, hx =>
          have e := Option.some.inj hx
          exact ⟨_, e.symm, by omega, by omega⟩
        | j + 2, hx => simp at hx
      have e13 := e2.trans e3
      refine ⟨a, b, rfl, hD.ex e13, hb1, by omega, fun H3 y e4 y0 y1 => ⟨_, y, rfl, rfl, ?_⟩⟩
      have e14 := e13.trans e4
      obtain ⟨m, hm2⟩ : ∃ m : Nat, (2 : Int) + y = (m : Int) := ⟨(2 + y).toNat, by omega⟩
      have m2 : 2 ≤ m := by omega
      have mr : m ≤ r := by omega
      simp only [hm2]
      have hdiv : r / m < r := Nat.div_lt_self (by omega) (by omega)
      have hdiv1 : 1 ≤ r / m := (Nat.one_le_div_iff (by omega)).mpr mr
      refine ⟨_, rfl, _, rfl, _, rfl, _, rfl, _, rfl, (r : Int), (m : Int), rfl, rfl, ⟨by omega, by omega⟩, a, l, ns, r / m, ?_, hD.ex e14, e14.sl hl, n1, n5, hdiv1, by omega, by omega, fun H4 v f e5 hv hwf hnm hdp => ?_⟩
      · rw [Int.natCast_ediv]; rfl
      refine ⟨sz_ok (n := 3) (by decide), fun p2 hp2 => q _ _ (.many m f) ((e14.trans e5).trans (Ex.new hp2)) ?_ (Wf.many.mpr ⟨m2, mr, hwf⟩) (by rw [names_many]; exact hnm) (by rw [depth_many]; omega)⟩
      rw [enc_many]
      exact .tup (.inl (.inl upd_same)) (.cons (.str _) (.cons (.int _) (.cons ((Ex.new (T := T) hp2).dp hv) .nil)))
    · -- kind, joint
      have hD1 := hD.ex e1
      refine ⟨_, rfl, l, _, rfl, .inl (e1.sl hl), rfl, _, rfl, if_dec (fun z => ?_) fun z => ?_⟩
      · have z1 : ns.length = 1 := by have := V.int.inj z; rw [List.length_map] at this; omega
        obtain ⟨s0, rfl⟩ : ∃ s0, ns = [s0] := List.length_eq_one_iff.mp z1
        refine ⟨_, rfl, l, _, 0, .str s0, rfl, rfl, e1.sl hl, atI_nat (j := 0) rfl, sz_ok (n := 2) (by decide), fun p hp => q _ _ (.kind s0) (e1.trans (Ex.new hp)) ?_ (Wf.kind.mpr r1) (by rw [names_kind]) (by rw [depth_kind]; omega)⟩
        rw [enc_kind]
        exact .tup (.inl (.inl upd_same)) (.cons (.str _) (.cons (.str _) .nil))
      have n2 : 2 ≤ ns.length := by
        have : ns.length ≠ 1 := fun y => z (by rw [List.length_map, y]; rfl)
        omega
      refine ⟨_, rfl, sz_ok (n := 2) (by decide), fun p1 hp1 => ?_⟩
      have e2 : Ex T H (upd H1 p1 (.lst [.str "and", .str "or"])) := e1.trans (Ex.new hp1)
      refine ⟨a, p1, _, rfl, hD.ex e2, .inl (.inl (.inl upd_same)), Nat.succ_pos 1, Nat.le_of_ble_eq_true rfl, fun H2 x j e3 hx => ?_⟩
      obtain ⟨b, rfl⟩ : ∃ b : Bool, x = .str (if b then "and" else "or") := by
        match j, hx with
        | 0, hx => exact ⟨true, (Option.some.inj hx).symm⟩
        | 1, hx => exact ⟨false, (Option.some.inj hx).symm⟩
        | j + 2, hx => simp at hx
      have e13 := e2.trans e3
      refine ⟨_, rfl, _, rfl, l, _, rfl, .inl (e13.sl hl), _, 1, rfl, rfl, 2, _, rfl, ?_⟩
      rw [List.length_map]
      refine ⟨a, _, rfl, hD.ex e13, by split <;> omega, by split <;> omega, fun H3 y e4 y0 y1 => ⟨2, y, rfl, rfl, ?_⟩⟩
      have e14 := e13.trans e4
      obtain ⟨sz, hsz⟩ : ∃ sz : Nat, (2 : Int) + y = (sz : Int) := ⟨(2 + y).toNat, by omega⟩
      have s2 : 2 ≤ sz := by omega
      have sn : sz ≤ ns.length := by split at y1 <;> omega
      simp only [hsz]
      refine ⟨_, rfl, sz_ok (n := 0) (by decide), fun pl hpl => ?_⟩
      have e15 : Ex T H (upd H3 pl (.lst [])) := e14.trans (Ex.new hpl)
      refine ⟨sz_ok (n := 4) (by decide), fun tp htp => ?_⟩
      have e16 := e15.trans (Ex.new htp (o := .tup [.str (if b then "and" else "or"), .int (sz : Int), .ref l, .ref pl]))
      have fpl : Fr H pl := Fr.new e14 hpl
      refine ⟨tp, _, rfl, .inl (.inl upd_same), rfl, _, _, rfl, _, _, rfl, _, _, rfl, _, _, rfl, rfl, ?_⟩
      -- the loop
      refine ⟨_, rfl, (sz : Int), 1, rfl, rfl, _, rfl, by omega, by omega, ?_⟩
      rw [show ((sz : Int) - 1).toNat = sz - 1 by omega]
      refine for_it walk_range (fun i σ H' => ∃ (rl : Addr) (y8 y9 : Option V) (us : List V) (rest : List Str) (ps : List (Fm Str)), σ = [some (.ref a), some (.ref l), some (.int (r : Int)), none, some (.str (if b then "and" else "or")), some (.int (sz : Int)), some (.ref rl), some (.ref pl), y8, y9] ∧ Ex T H H' ∧
        SqL K H' rl (rest.map V.str) ∧ (rl = pl → SqL K (fun _ => none) rl (rest.map V.str)) ∧ H' pl = some (.lst us) ∧ DpAll K H' us (ps.map enc) ∧ ps.length = i ∧ sz ≤ rest.length + i ∧ ns = ps.flatMap Fm.names ++ rest ∧ ∀ p ∈ ps, Wf r p ∧ depth p + 1 ≤ r + ns.length) ?_ (fun _ _ _ _ _ => trivial) ?_ ?_
      · refine ⟨l, none, none, [], ns, [], rfl, e16, e16.sl hl, fun z => ?_, ?_, .nil, rfl, by omega, rfl, fun p hp => by cases hp⟩
        · rcases hl with (hl | ⟨o, hl⟩) | hl
          · obtain ⟨_, q'⟩ := fpl _ (z ▸ hl); cases q'
          · obtain ⟨_, q'⟩ := fpl _ (z ▸ hl); cases q'
          · exact .inr hl
        rw [upd_ne (ne_of_none upd_same htp)]; exact upd_same
      · rintro i x σ H4 H5 hi ⟨rl, y8, y9, us, rest, ps, rfl, e5, hrl, hrp, hpl4, hus, hpi, hrest, hns, hps⟩ ⟨rfl, rfl⟩
        have hnl : ns.length = (ps.flatMap Fm.names).length + rest.length := by rw [hns, List.length_append]
        refine ⟨_, rfl, _, rfl, rl, _, rfl, .inl hrl, _, rfl, _, (sz : Int), rfl, rfl, _, rfl, _, _, rfl, rfl, _, 1, rfl, rfl, ?_⟩
        rw [List.length_map]
        refine ⟨a, _, rfl, hD.ex e5, by omega, by omega, fun H6 y2 e6 z0 z1 => ⟨1, y2, rfl, rfl, ?_⟩⟩
        have e56 := e5.trans e6
        obtain ⟨hn, hhn⟩ : ∃ hn : Nat, (1 : Int) + y2 = (hn : Int) := ⟨(1 + y2).toNat, by omega⟩
        have hn1 : 1 ≤ hn := by omega
        have hn2 : hn + sz ≤ rest.length + i + 1 := by omega
        simp only [hhn]
        refine ⟨_, rfl, .inl ⟨rfl, _, .inl (.inl (e6.lst hpl4))⟩, _, rfl, _, rfl, _, rfl, _, rfl, rl, _, rfl, e6.sl hrl, fun s1 hs1 => ?_⟩
        rw [cut_take, ← List.map_take]
        have e7 : Ex T H (upd H6 s1 (.lst ((rest.take hn).map V.str))) := e56.trans (Ex.new hs1)
        have htl : (rest.take hn).length = hn := by rw [List.length_take]; omega
        refine ⟨_, rfl, a, s1, rest.take hn, r, rfl, hD.ex e7, .inl (.inl upd_same), by omega, by omega, r1, r12, by omega, fun H7 v f e8 hv hwf hnm hdp => ?_⟩
        have e67 : Ex T H6 H7 := (Ex.new hs1).trans e8
        have h7 : H7 pl = some (.lst us) := (e6.trans e67).lst hpl4
        have e78 := e7.trans e8
        have ul : us.length = i := by rw [dpa_len hus, List.length_map, hpi]
        refine ⟨pl, us, v, rfl, rfl, h7, sz_lt (by omega), ?_⟩
        have e9 : Ex T H (upd H7 pl (.lst (us ++ [v]))) := e78.lstF fpl h7
        have hrl7 : SqL K (upd H7 pl (.lst (us ++ [v]))) rl (rest.map V.str) := by
          by_cases z : rl = pl
          · rcases hrp z with (h | ⟨o, h⟩) | h
            · cases h
            · cases h
            · exact .inr h
          · rcases e67.sl (e6.sl hrl) with (h | ⟨o, h⟩) | h
            · exact .inl (.inl (by rw [upd_ne z]; exact h))
            · exact .inl (.inr ⟨o, by rw [upd_ne z]; exact h⟩)
            · exact .inr h
        refine ⟨_, rfl, _, rfl, _, rfl, rl, _, rfl, hrl7, fun s2' hs2 => ?_⟩
        rw [cut_drop, ← List.map_drop]
        have e10 := e9.trans (Ex.new hs2 (o := .lst ((rest.drop hn).map V.str)))
        have ne2 : pl ≠ s2' := ne_of_none upd_same hs2
        refine ⟨s2', _, _, us ++ [v], rest.drop hn, ps ++ [f], rfl, e10, .inl (.inl upd_same), fun z => absurd z.symm ne2, by rw [upd_ne ne2]; exact upd_same, ?_, by rw [List.length_append, hpi]; rfl, by rw [List.length_drop]; omega, ?_, fun p hp => ?_⟩
        · rw [List.map_append]
          exact (Ex.new (T := T) hs2).dpa (dpa_monoT (tup_updL h7) _ _ (flat_app (flat_gs _) (flat_gs [f])) (dpa_app ((e6.trans e67).dpa hus) (.cons hv .nil)))
        · rw [List.flatMap_append, List.flatMap_singleton, hnm, List.append_assoc, List.take_append_drop]; exact hns
        · rcases List.mem_append.mp hp with hp | hp
          · exact hps p hp
          · rw [List.mem_singleton.mp hp]
            exact ⟨hwf, by omega⟩
      · rintro σ H4 ⟨rl, y8, y9, us, rest, ps, rfl, e5, hrl, hrp, hpl4, hus, hpi, hrest, hns, hps⟩
        have hnl : ns.length = (ps.flatMap Fm.names).length + rest.length := by rw [hns, List.length_append]
        have hpn : 1 ≤ (ps.flatMap Fm.names).length := by
          match ps, hpi with
          | p :: t, _ =>
            have := names_pos (hps p List.mem_cons_self).1
            rw [List.flatMap_cons, List.length_append]; omega
          | [], h => simp at h; omega
        refine ⟨_, rfl, _, rfl, _, rfl, _, rfl, _, rfl, a, rl, rest, r, rfl, hD.ex e5, hrl, by omega, by omega, r1, r12, by omega, fun H5 v f e6 hv hwf hnm hdp => ?_⟩
        have ul : us.length = sz - 1 := by rw [dpa_len hus, List.length_map, hpi]
        refine ⟨sz_ok (n := 1) (by decide), fun p3 hp3 => ⟨pl, p3, us, _, rfl, rfl, ?_, upd_same, ?_, fun p4 hp4 => ?_⟩⟩
        · rw [upd_ne (ne_of_none (e6.lst hpl4) hp3)]; exact e6.lst hpl4
        · simp only [List.length_singleton]; exact sz_ok (by omega)
        refine ⟨p4, _, rfl, .inl ⟨.inl (.inl upd_same), fun p5 hp5 => ⟨sz_ok (n := 2) (by decide), fun p6 hp6 => ?_⟩⟩⟩
        have e7 := ((e6.trans (Ex.new hp3 (o := .lst [v]))).trans (Ex.new hp4 (o := .lst (us ++ [v])))).trans (Ex.new hp5 (o := .tup (us ++ [v])))
        have e8 := (Ex.new (T := T) hp3 (o := .lst [v])).trans ((Ex.new hp4 (o := .lst (us ++ [v]))).trans (Ex.new hp5 (o := .tup (us ++ [v]))))
        refine q _ _ (.node b (ps ++ [f])) ((e5.trans e7).trans (Ex.new hp6)) ?_ (Wf.node.mpr ⟨?_, fun p hp => ?_⟩) ?_ ?_
        · rw [enc_node]
          refine .tup (.inl (.inl upd_same)) (.cons (.str _) (.cons (.tup (.inl (.inl ((Ex.new (T := T) hp6).tup upd_same))) ?_) .nil))
          rw [List.map_append]
          exact (Ex.new (T := T) hp6).dpa (dpa_app (e7.dpa hus) (.cons (e8.dp hv) .nil))
        · rw [List.length_append, hpi, List.length_singleton]; omega
        · rcases List.mem_append.mp hp with hp | hp
          · exact (hps p hp).1
          · rw [List.mem_singleton.mp hp]; exact hwf
        · rw [names_node, List.flatMap_append, List.flatMap_singleton, hnm]; exact hns.symm
        · rw [depth_node]
          have : depthL (ps ++ [f]) ≤ r + ns.length - 1 := depthL_le fun p hp => by
            rcases List.mem_append.mp hp with hp | hp
            · have := (hps p hp).2; omega
            · rw [List.mem_singleton.mp hp]; omega
          omega
end
end K23
/-! M8: a word that is made new: its fifth letter is changed until nothing bears it. -/
namespace K23
/-- w[:4] + c if w is taken -/
def stepW (found : List (List Nat)) (w : List Nat) (c : Nat) : List Nat := if w ∈ found then w.take 4 ++ [c] else w
def walkW (found : List (List Nat)) (L : Nat → Nat) (w : List Nat) : Nat → List Nat
  | 0 => w
  | j + 1 => stepW found (walkW found L w j) (L j)
structure SeenW (found : List (List Nat)) (L : Nat → Nat) (j : Nat) (w : List Nat) (seen : List (List Nat)) : Prop where
  len : seen.length = j
  nd : seen.Nodup
  sub : ∀ s ∈ seen, s ∈ found
  five : w.length ≤ 5
  last : w.getLast? = some (L j)
  rel : ∀ s ∈ seen, s.length < w.length ∨ (s.length = 5 ∧ w.length = 5 ∧ ∃ i, i < j ∧ s.getLast? = some (L i))
theorem len_take4 {w : List Nat} {c : Nat} (h : w.length ≤ 5) : (w.take 4 ++ [c]).length = min w.length 4 + 1 := by
  rw [List.length_append, List.length_take, List.length_singleton]; omega
theorem seen_step {found : List (List Nat)} {L : Nat → Nat} {m j : Nat} {w : List Nat} {seen : List (List Nat)} (inj : ∀ a b, a ≤ m → b ≤ m → L a = L b → a = b) (hj : j + 1 ≤ m) (h : SeenW found L j w seen) (hw : w ∈ found) :
    SeenW found L (j + 1) (w.take 4 ++ [L (j + 1)]) (w :: seen) := by
  have hl := len_take4 (c := L (j + 1)) h.five
  have f := h.five
  refine ⟨by rw [List.length_cons, h.len], List.nodup_cons.mpr ⟨fun hm => ?_, h.nd⟩, fun s hs => ?_, by omega, by rw [List.getLast?_append]; rfl, fun s hs => ?_⟩
  · rcases h.rel w hm with q | ⟨_, _, i, hi, q⟩
    · omega
    · rw [h.last] at q
      have := inj j i (by omega) (by omega) (Option.some.inj q)
      omega
  · rcases List.mem_cons.mp hs with rfl | hs
    · exact hw
    · exact h.sub s hs
  · rcases List.mem_cons.mp hs with rfl | hs
    · by_cases z : s.length ≤ 4
      · left; omega
      · right; exact ⟨by omega, by omega, j, by omega, h.last⟩
    · rcases h.rel s hs with q | ⟨q1, q2, i, hi, q⟩
      · by_cases z : w.length ≤ 4
        · left; omega
        · left; omega
      · right; exact ⟨q1, by omega, i, by omega, q⟩
theorem sub_len {found seen : List (List Nat)} (nd : seen.Nodup) (h : ∀ s ∈ seen, s ∈ found) : seen.length ≤ found.length := by
  induction seen generalizing found with
  | nil => exact Nat.zero_le _
  | cons x r ih =>
    rw [List.nodup_cons] at nd
    have hx := h x List.mem_cons_self
    have i := ih nd.2 (found := found.erase x) fun s hs => (List.mem_erase_of_ne (fun z => nd.1 (by rw [← z]; exact hs))).mpr (h s (List.mem_cons_of_mem _ hs))
    have l := List.length_erase_of_mem hx
    have p := List.length_pos_of_mem hx
    rw [List.length_cons]; omega
theorem walkW_len {found : List (List Nat)} {L : Nat → Nat} {w : List Nat} (h1 : 1 ≤ w.length) (h5 : w.length ≤ 5) : ∀ j, 1 ≤ (walkW found L w j).length ∧ (walkW found L w j).length ≤ 5
  | 0 => ⟨h1, h5⟩
  | j + 1 => by
    have i := walkW_len (found := found) (L := L) h1 h5 j
    rw [walkW, stepW]
    split
    · rw [len_take4 i.2]; omega
    · exact i
theorem walkW_in {found : List (List Nat)} {L : Nat → Nat} {w : List Nat} {P : Nat → Prop} (h : ∀ c ∈ w, P c) (hL : ∀ j, P (L j)) : ∀ j, ∀ c ∈ walkW found L w j, P c
  | 0 => h
  | j + 1 => fun c hc => by
    have i := walkW_in (found := found) h hL j
    rw [walkW, stepW] at hc
    split at hc
    · rcases List.mem_append.mp hc with hc | hc
      · exact i c (List.mem_of_mem_take hc)
      · rw [List.mem_singleton.mp hc]; exact hL j
    · exact i c hc
theorem walkW_new {found : List (List Nat)} {L : Nat → Nat} {m : Nat} {w : List Nat} (inj : ∀ a b, a ≤ m → b ≤ m → L a = L b → a = b) (h1 : 1 ≤ w.length) (h5 : w.length ≤ 5) (hf : found.length < m) : walkW found L w (m + 1) ∉ found := by
  have key : ∀ j, j ≤ m → walkW found L w (j + 1) ∉ found ∨ ∃ seen, SeenW found L j (walkW found L w (j + 1)) seen := by
    intro j
    induction j with
    | zero =>
      intro _
      rw [walkW, stepW]
      by_cases z : walkW found L w 0 ∈ found
      · rw [if_pos z]
        refine .inr ⟨[], rfl, .nil, fun s hs => (by cases hs), ?_, (by rw [List.getLast?_append]; rfl), fun s hs => (by cases hs)⟩
        rw [show (List.take 4 (walkW found L w 0) ++ [L 0]).length = min w.length 4 + 1 from len_take4 h5]; omega
      · rw [if_neg z]; exact .inl z
    | succ j ih =>
      intro hj
      rw [walkW, stepW]
      by_cases z : walkW found L w (j + 1) ∈ found
      · rw [if_pos z]
        rcases ih (by omega) with q | ⟨seen, q⟩
        · exact absurd z q
        · exact .inr ⟨_, seen_step inj hj q z⟩
      · rw [if_neg z]; exact .inl z
  rcases key m (Nat.le_refl _) with q | ⟨seen, q⟩
  · exact q
  · have l := sub_len q.nd q.sub
    have := q.len
    omega
/-- after k changes -/
def subK (L : Nat → Nat) (w : List Nat) : Nat → List Nat
  | 0 => w
  | k + 1 => (subK L w k).take 4 ++ [L k]
theorem walkW_sub {found : List (List Nat)} {L : Nat → Nat} {w : List Nat} : ∀ j, walkW found L w j = subK L w j ∨ (walkW found L w j ∉ found ∧ ∃ k, walkW found L w j = subK L w k)
  | 0 => .inl rfl
  | j + 1 => by
    rcases walkW_sub (found := found) (L := L) (w := w) j with h | ⟨h, k, hk⟩
    · by_cases c : walkW found L w j ∈ found
      · refine .inl ?_
        rw [walkW, stepW, if_pos c, h]; rfl
      · refine .inr ?_
        rw [walkW, stepW, if_neg c]
        exact ⟨c, j, h⟩
    · refine .inr ?_
      rw [walkW, stepW, if_neg h]
      exact ⟨h, k, hk⟩
theorem walkW_is {found : List (List Nat)} {L : Nat → Nat} {w : List Nat} (j : Nat) : ∃ k, walkW found L w j = subK L w k := by
  rcases walkW_sub (found := found) (L := L) (w := w) j with h | ⟨_, h⟩
  · exact ⟨j, h⟩
  · exact h
theorem subK_two {L : Nat → Nat} {w : List Nat} (h : 2 ≤ w.length) : ∀ k, 2 ≤ (subK L w k).length
  | 0 => h
  | k + 1 => by
    have := subK_two (L := L) h k
    rw [subK, List.length_append, List.length_take, List.length_singleton]
    omega
theorem subK_len {L : Nat → Nat} {w : List Nat} (h : w.length ≤ 3) : ∀ k, (subK L w k).length = min (w.length + k) 5
  | 0 => by rw [subK]; omega
  | k + 1 => by
    have := subK_len (L := L) h k
    rw [subK, List.length_append, List.length_take, List.length_singleton]
    omega
/-- no word of two letters or more is 'x' -/
theorem walk_x {found : List (List Nat)} {L : Nat → Nat} {w : List Nat} (h : 2 ≤ w.length) (j : Nat) : walkW found L w j ≠ [120] := fun e => by
  obtain ⟨k, hk⟩ := walkW_is (found := found) (L := L) (w := w) j
  have := subK_two (L := L) h k
  rw [← hk, e] at this
  simp at this
/-- no word of three letters or less becomes 'nuts' -/
theorem walk_nuts {found : List (List Nat)} {w : List Nat} {i : Nat} (h1 : 1 ≤ w.length) (h3 : w.length ≤ 3) (hi : i < 8) (j : Nat) : walkW found (fun j => 97 + (7 * j + i) % 26) w j ≠ [110, 117, 116, 115] := fun e => by
  obtain ⟨k, hk⟩ := walkW_is (found := found) (L := fun j => 97 + (7 * j + i) % 26) (w := w) j
  have len := subK_len (L := fun j => 97 + (7 * j + i) % 26) h3 k
  rw [hk] at e
  rw [e] at len
  have len : 4 = min (w.length + k) 5 := len
  match k, e, len with
  | 0, _, len => omega
  | 1, e, len =>
    have := congrArg List.getLast? e
    rw [subK, List.getLast?_concat] at this
    simp at this
    omega
  | 2, e, len =>
    have := congrArg List.getLast? e
    rw [subK, List.getLast?_concat] at this
    simp at this
    omega
  | 3, e, len =>
    have l1 : w.length = 1 := by omega
    obtain ⟨a, rfl⟩ := List.length_eq_one_iff.mp l1
    simp [subK] at e
    omega
  | k + 4, _, len => omega
end K23
/-! V3: _law_names. -/
namespace K23
open PySem PySem.Spec PyProof.Rows L2
/-- c * 2 -/
theorem op_twice {X : Cx} : OpR X (binaryOp .Mult) (fun x y H Q => ∃ c : Nat, x = .str ⟨#[c]⟩ ∧ y = .int 2 ∧ Q (.str ⟨#[c, c]⟩) H) := by
  intro pins s σ H x y v u Q I rx ry h
  obtain ⟨c, rfl, rfl, q⟩ := h
  obtain ⟨t, rfl⟩ := rx
  obtain ⟨t', rfl⟩ := ry
  refine SB.mul ⟨by decide, fun _ _ => by show ¬ ((1 : Nat) : Int) > (2 ^ 63 - 1) / 2; decide, fun _ _ => by show Builtin.Str.tooLong (1 * 2) = false; decide +kernel⟩ fun t' k => ⟨.str ⟨#[c, c]⟩, H, I.tok _, ⟨t', rfl⟩, q⟩
theorem flat_cps {b : Array Nat} : ∀ (ps : List Str) (acc : Array Nat), (ps.foldl (fun acc p => acc ++ b ++ p.cps) acc).toList = acc.toList ++ (ps.map fun p => b.toList ++ p.cps.toList).flatten
  | [], acc => by simp
  | p :: r, acc => by
    rw [List.foldl_cons, flat_cps r, List.map_cons, List.flatten_cons]
    simp
theorem join_cps (ys : List Str) : (Txt.join Str.empty ys).cps.toList = (ys.map fun y => y.cps.toList).flatten := by
  unfold Txt.join Builtin.Str.glued
  cases ys with
  | nil => rfl
  | cons y r =>
    show (r.foldl (fun acc p => acc ++ Str.empty.cps ++ p.cps) y.cps).toList = _
    rw [flat_cps]
    rfl
theorem cat_cps (a b : Str) : (a ++ b).cps.toList = a.cps.toList ++ b.cps.toList := by
  show (a.cps ++ b.cps).toList = _
  rw [Array.toList_append]
theorem cut4_cps (z : Str) : (cutS z none (some 4)).cps.toList = z.cps.toList.take 4 := by
  unfold cutS
  rw [HT.sIx_none, show HT.sIx z.length z.length (some 4) = min 4 z.length from HT.sIx_nat z.length z.length 4, List.drop_zero, Nat.sub_zero]
  show (z.cps.toList.take (min 4 z.length)).toArray.toList = _
  rw [List.toList_toArray]
  have hl : z.cps.toList.length = z.length := Array.length_toList
  rcases Nat.le_total 4 z.length with h | h
  · rw [Nat.min_eq_left h]
  · rw [Nat.min_eq_right h, List.take_of_length_le (by omega), List.take_of_length_le (by omega)]
theorem len_cps (z : Str) : z.cps.toList.length = z.length := Array.length_toList
theorem letters_at {i : Nat} (h : i < 26) : ("abcdefghijklmnopqrstuvwxyz" : Str).cps.toList[i]? = some (97 + i) := by
  have e : ("abcdefghijklmnopqrstuvwxyz" : Str).cps.toList = List.range' 97 26 := by decide +kernel
  rw [e, List.getElem?_range' h, Nat.one_mul]
theorem empty_is : ("" : Str) = Str.empty := by decide +kernel
def Low (l : List Nat) : Prop := ∀ c ∈ l, 97 ≤ c ∧ c ≤ 122
theorem signs_of {α : Type} : ∀ {as : List α} {ds : List PyData}, Paired (fun (_ : α) d => ∃ c : Nat, d = PyData.str ⟨#[c]⟩ ∧ 97 ≤ c ∧ c ≤ 122) as ds → ∃ cs : List Nat, ds = (cs.map fun c => (⟨#[c]⟩ : Str)).map PyData.str ∧ cs.length = as.length ∧ Low cs
  | _, _, .nil => ⟨[], rfl, rfl, fun c h => by cases h⟩
  | _, _, .cons h t => by
    obtain ⟨c, rfl, h1, h2⟩ := h
    obtain ⟨cs, rfl, h3, h4⟩ := signs_of t
    refine ⟨c :: cs, rfl, by rw [List.length_cons, List.length_cons, h3], fun x hx => ?_⟩
    rcases List.mem_cons.mp hx with rfl | hx
    · exact ⟨h1, h2⟩
    · exact h4 x hx
theorem signs_cps (cs : List Nat) : ((cs.map fun c => (⟨#[c]⟩ : Str)).map fun y => y.cps.toList).flatten = cs := by
  induction cs with
  | nil => rfl
  | cons c r ih => rw [List.map_cons, List.map_cons, List.flatten_cons, ih]; rfl
theorem signs_sum (cs : List Nat) : ((cs.map fun c => (⟨#[c]⟩ : Str)).map (·.length)).sum = cs.length := by
  induction cs with
  | nil => rfl
  | cons c r ih => rw [List.map_cons, List.map_cons, List.sum_cons, ih, List.length_cons, Nat.add_comm]; rfl
theorem cps_mem {s : Str} {ns : List Str} : s.cps.toList ∈ (ns.map fun x => x.cps.toList) ↔ s ∈ ns := by
  rw [List.mem_map]
  exact ⟨fun ⟨x, hx, e⟩ => by rw [← str_ext e]; exact hx, fun h => ⟨s, h, rfl⟩⟩
section
variable {T : Tl} {P : Program} {w : World} {K : PySem.W.Frag} {mg : Str → Option Value} {base : Heap} {A : Nat → Addr} {D : Nat → FuncData}
def rJoinK (K : PySem.W.Frag) : V → List V → Hp → VK → Prop := fun x xs H Q => ∃ a p, ∃ ys : List Str, x = .str a ∧ xs = [.ref p] ∧ (SqL K H p (ys.map V.str) ∨ SqT K H p (ys.map V.str)) ∧ (ys.map (·.length)).sum + ys.length * a.length ≤ 16777216 ∧ Q (.str (Txt.join a ys)) H
theorem kmt_join (K : PySem.W.Frag) {X : Cx} (h : X.K = K := by rfl) : MtR X "str.join" (rJoinK K) := by subst h; exact mt_join
def spNames5 (T : Tl) : Sp := fun vs H Q _ => ∃ (a : Addr) (m : Nat), vs = [.ref a, .int (m : Int)] ∧ Dh H a ∧ 1 ≤ m ∧ m ≤ 8 ∧
  ∀ H' p (ns : List Str), Fr H p → Ex T H H' → H' p = some (.lst (ns.map V.str)) → ns.length = m → ns.Nodup → (∀ s ∈ ns, IsNm s) → ((∀ s ∈ ns, s ≠ "x") ∨ ∀ s ∈ ns, s ≠ "nuts") → Q (.ref p) H'
theorem ok_names (U : Txt K mg A D) : FnOk P w K mg base CX0 3 (A 44) (D 44) ["_law_heap_here", "_law_many"] (spNames5 T) := by
  have G_l_draw : FnOk P w K mg base CX0 1 (A 42) (D 42) ["_law_heap_here", "_law_many"] (spDraw T) := ok_draw U
  have G_l_pick : FnOk P w K mg base CX0 2 (A 43) (D 43) ["_law_heap_here", "_law_some"] (spPick T K) := ok_pick U
  refine (F_l_names U).ok sc_l_names (fun vs H Q E h => by obtain ⟨_, _, rfl, _⟩ := h; rfl) (fun cdv A' outer s H vs Q E hr h => ?_)
  obtain ⟨a, m, rfl, hD, m1, m8, q⟩ := h
  refine ⟨_, PSs.nox (pss_cons
      (ps_asg (pe_tup (pa_cons pe_str (pa_cons (pe_lst pa_nil) pa_nil))) (kg_tup K (n := 2) (pgs_cons (pg_name (i := 2) sc_l_names.nd rfl (.inr rfl)) (pgs_cons (pg_name (i := 3) sc_l_names.nd rfl (.inl rfl)) pgs_nil))))
      (pss_cons
      (ps_set (i := 4) sc_l_names.nd rfl (.inl rfl) (pe_f G_l_pick hr (by omega) (g_l_pick U) (F_l_pick U).kp (b_l_pick U) (pa_cons (pv 0) (pa_cons (pe_lst (pa_cons pe_str (pa_cons pe_str (pa_cons (pe_ix ix_str (pv 2) (pe_f G_l_draw hr (by omega) (g_l_draw U) (F_l_draw U).kp (b_l_draw U) (pa_cons (pv 0) (pa_cons pe_int pa_nil))) (fun _ _ => rfl)) (pa_cons (pe_op op_twice (pe_ix ix_str (pv 2) (pe_f G_l_draw hr (by omega) (g_l_draw U) (F_l_draw U).kp (b_l_draw U) (pa_cons (pv 0) (pa_cons pe_int pa_nil))) (fun _ _ => rfl)) pe_int) pa_nil))))) pa_nil))))
      (pss_cons
      (ps_for PassesOwn.never rfl (pi_range1 (by rfl) (z_range U) (pa_cons (pv 1) pa_nil)) (pg_name (i := 5) sc_l_names.nd rfl (.inl rfl))
       (pss_cons
       (ps_set (i := 7) sc_l_names.nd rfl (.inl rfl) (pe_op op_add_str (pv 4) (kb_m K PySem.F.plainAttrs_str PySem.F.slot_str_join PySem.F.type_str_join (kmt_join K) pe_str (pa_cons (pe_lc (g := gName 6) (tt := tYes) rfl sc_l_names.nd (pi_range1 (by rfl) (z_range U) (pa_cons (pe_op op_add pe_int (pe_f G_l_draw hr (by omega) (g_l_draw U) (F_l_draw U).kp (b_l_draw U) (pa_cons (pv 0) (pa_cons pe_int pa_nil)))) pa_nil)) (blkOk_by (N := N_l_names) (own := [("_law_place", 6)]) (by kernel_rfl)) (fun _ _ _ _ _ => (pg_name (i := 6) sc_l_names.nd rfl (.inl rfl))) (fun _ _ _ _ _ => pts_nil) (fun _ _ _ _ _ => (pe_ix ix_str (pv 2) (pe_f G_l_draw hr (by omega) (g_l_draw U) (F_l_draw U).kp (b_l_draw U) (pa_cons (pv 0) (pa_cons pe_int pa_nil))) (fun _ _ => rfl)))) pa_nil))))
       (pss_cons
       (ps_for PassesOwn.never rfl (pi_range1 (by rfl) (z_range U) (pa_cons (pe_op op_add (pv 1) pe_int) pa_nil)) (pg_name (i := 6) sc_l_names.nd rfl (.inl rfl))
        (pss_one
        (ps_set (i := 7) sc_l_names.nd rfl (.inl rfl) (pe_ifExp (pt_cmpR (ko_in K) (pv 7) (pv 3) rfl) (pe_op op_add_str (pe_slice sl_str (pv 7) po_none (po_some pe_int)) (pe_ix ix_str (pv 2) (pe_op op_mod (pe_callTy (call_int1) (by rfl) (z_int U) boot_int (pa_cons (pe_op op_add (pe_op op_mul pe_int (pv 6)) (pv 5)) pa_nil)) pe_int) (fun _ _ => rfl))) (pv 7)))))
       (pss_one
       (ps_expr (kb_m K PySem.F.plainAttrs_list PySem.F.slot_list_append PySem.F.type_list_append mt_append (pv 3) (pa_cons (pv 7) pa_nil)))))))
      (pss_one
      (ps_ret (pv 3)))))), ?_⟩
  have lt : ("abcdefghijklmnopqrstuvwxyz" : Str).length ≤ sizeLine := by decide +kernel
  have at26 : ∀ r : Int, 0 ≤ r → r < 26 → ∃ c, atI ("abcdefghijklmnopqrstuvwxyz" : Str).cps.toList r = some c ∧ 97 ≤ c ∧ c ≤ 122 ∧ c = 97 + r.toNat := fun r h0 h1 => by
    obtain ⟨n, rfl⟩ : ∃ n : Nat, r = n := ⟨r.toNat, by omega⟩
    exact ⟨97 + n, atI_nat (letters_at (by omega)), by omega, by omega, by rw [Int.toNat_natCast]⟩
  refine ⟨sz_ok (n := 0) (by decide), fun fo hfo => ⟨sz_ok (n := 2) (by decide), fun tp htp => ?_⟩⟩
  have e1 : Ex T H (upd (upd H fo (.lst [])) tp (.tup [.str "abcdefghijklmnopqrstuvwxyz", .ref fo])) := (Ex.new hfo).trans (Ex.new htp)
  have hfo1 : (upd (upd H fo (.lst [])) tp (.tup [.str "abcdefghijklmnopqrstuvwxyz", .ref fo])) fo = some (.lst []) := by rw [upd_ne (ne_of_none upd_same htp)]; exact upd_same
  refine ⟨tp, _, rfl, .inl (.inl upd_same), rfl, _, _, rfl, _, _, rfl, rfl, ?_⟩
  -- the front
  refine ⟨_, rfl, _, rfl, _, rfl, a, 26, rfl, hD.ex e1, by decide, by decide, fun H2 r2 e2 r20 r21 => ?_⟩
  obtain ⟨c2, g2, g3, g4, _⟩ := at26 r2 r20 r21
  refine ⟨_, r2, c2, rfl, rfl, lt, g2, _, rfl, _, rfl, a, 26, rfl, (hD.ex e1).ex e2, by decide, by decide, fun H3 r3 e3 r30 r31 => ?_⟩
  obtain ⟨c3, k2, k3, k4, _⟩ := at26 r3 r30 r31
  refine ⟨_, r3, c3, rfl, rfl, lt, k2, c3, rfl, rfl, sz_ok (n := 4) (by decide), fun p4 hp4 => ?_⟩
  have e4 := ((e1.trans e2).trans e3).trans (Ex.new hp4 (o := .lst [.str "", .str "", .str ⟨#[c2]⟩, .str ⟨#[c3, c3]⟩]))
  refine ⟨a, p4, _, rfl, hD.ex e4, .inl (.inl (.inl upd_same)), Nat.succ_pos 3, Nat.le_of_ble_eq_true rfl, fun H5 x j e5 hx => ?_⟩
  obtain ⟨front, rfl, hf2, hfl⟩ : ∃ front : Str, x = .str front ∧ front.length ≤ 2 ∧ Low front.cps.toList := by
    match j, hx with
    | 0, hx => exact ⟨_, (Option.some.inj hx).symm, by decide +kernel, fun c hc => by simp [show ("" : Str).cps.toList = [] by decide +kernel] at hc⟩
    | 1, hx => exact ⟨_, (Option.some.inj hx).symm, by decide +kernel, fun c hc => by simp [show ("" : Str).cps.toList = [] by decide +kernel] at hc⟩
    | 2, hx => exact ⟨_, (Option.some.inj hx).symm, Nat.le_of_ble_eq_true rfl, fun c hc => by rw [show c = c2 by simpa using hc]; exact ⟨g3, g4⟩⟩
    | 3, hx => exact ⟨_, (Option.some.inj hx).symm, Nat.le_of_ble_eq_true rfl, fun c hc => by rw [show c = c3 by simpa using hc]; exact ⟨k3, k4⟩⟩
    | j + 4, hx => simp at hx
  have e15 := e4.trans e5
  have ffo : Fr H fo := Fr.of hfo
  -- the loop
  refine ⟨_, rfl, (m : Int), rfl, by omega, by omega, ?_⟩
  rw [show ((m : Int)).toNat = m from Int.toNat_natCast m]
  refine for_it walk_range (fun i σ H' => ∃ (y5 y6 y7 : Option V) (ns : List Str), σ = [some (.ref a), some (.int (m : Int)), some (.str "abcdefghijklmnopqrstuvwxyz"), some (.ref fo), some (.str front), y5, y6, y7] ∧
    Ex T H H' ∧ H' fo = some (.lst (ns.map V.str)) ∧ ns.length = i ∧ ns.Nodup ∧ (∀ s ∈ ns, IsNm s) ∧ ((front.cps.toList ≠ [] ∧ ∀ s ∈ ns, s ≠ "x") ∨ (front.cps.toList = [] ∧ ∀ s ∈ ns, s ≠ "nuts"))) ?_ (fun _ _ _ _ _ => trivial) ?_ ?_
  · have fr0 : (front.cps.toList ≠ [] ∧ ∀ s ∈ ([] : List Str), s ≠ "x") ∨ (front.cps.toList = [] ∧ ∀ s ∈ ([] : List Str), s ≠ "nuts") := by
      by_cases z : front.cps.toList = []
      · exact .inr ⟨z, fun s hs => nomatch hs⟩
      · exact .inl ⟨z, fun s hs => nomatch hs⟩
    refine ⟨none, none, none, [], rfl, e15, ?_, rfl, .nil, (fun s hs => nomatch hs), fr0⟩
    exact e5.lst (by rw [upd_ne (ne_of_none (e3.lst (e2.lst hfo1)) hp4)]; exact e3.lst (e2.lst hfo1))
  · rintro i x σ H6 H7 hi ⟨y5, y6, y7, ns, rfl, e6, hns, hlen, hnd, hnm, hxn⟩ ⟨rfl, rfl⟩
    -- the word
    refine ⟨_, rfl, rfl, _, rfl, a, 3, rfl, hD.ex e6, by decide, by decide, fun H8 r8 e8 r80 r81 => ?_⟩
    refine ⟨1, r8, rfl, rfl, (1 : Int) + r8, rfl, by omega, by omega, fun D hD8 => ?_⟩
    obtain ⟨q8, hq8, q81, q83⟩ : ∃ q8 : Nat, ((1 : Int) + r8).toNat = q8 ∧ 1 ≤ q8 ∧ q8 ≤ 3 := ⟨_, rfl, by omega, by omega⟩
    rw [hq8]
    have e68 := e6.trans e8
    refine map_rel (T := T) (K := K) (as := List.range q8) (fun _ d => ∃ c : Nat, d = .str ⟨#[c]⟩ ∧ 97 ≤ c ∧ c ≤ 122) (walk_range (n := q8)) List.length_range (by omega) (fun _ _ => trivial) hD8 (fun _ _ ⟨_, h, _⟩ => by rw [h]; rfl) ?_ ?_
    · rintro j x0 y H9 H10 E _ e9 ⟨rfl, _⟩ hE
      refine ⟨rfl, _, rfl, _, rfl, a, 26, rfl, (hD.ex e68).ex e9, by decide, by decide, fun H11 r e11 r0 r1 => ?_⟩
      obtain ⟨c, g2, g3, g4, _⟩ := at26 r r0 r1
      exact ⟨_, r, c, rfl, rfl, lt, g2, hE _ ⟨c, rfl, g3, g4⟩ _ H11 e11 (.str _)⟩
    · intro ys H9 ds e9 h9 hP hy
      obtain ⟨cs, rfl, hcl, hcs⟩ := signs_of hP
      rw [List.length_range] at hcl
      have hys := dpa_strs hy
      subst hys
      have hw0 : (front ++ Txt.join "" (cs.map fun c => (⟨#[c]⟩ : Str))).cps.toList = front.cps.toList ++ cs := by
        rw [cat_cps, empty_is, join_cps, signs_cps]
      have hjl : (Txt.join "" (cs.map fun c => (⟨#[c]⟩ : Str))).length = q8 := by
        rw [← len_cps, empty_is, join_cps, signs_cps, hcl]
      have hfl2 : front.cps.toList.length ≤ 2 := by rw [len_cps]; exact hf2
      have e69 := e68.trans e9
      refine ⟨_, D, _, rfl, rfl, .inl (.inl (.inl h9)), ?_, _, _, rfl, rfl, sz_ok (by rw [hjl]; omega), ?_⟩
      · rw [signs_sum, List.length_map, hcl, show ("" : Str).length = 0 by decide +kernel]; omega
      -- until nobody bears it
      have hfo9 : H9 fo = some (.lst (ns.map V.str)) := e9.lst (e8.lst hns)
      refine ⟨_, rfl, (m : Int), 1, rfl, rfl, (m : Int) + 1, rfl, by omega, by omega, ?_⟩
      rw [show ((m : Int) + 1).toNat = m + 1 by omega]
      refine for_it walk_range (fun j σ H' => ∃ (y6 : Option V) (wd : Str), σ = [some (.ref a), some (.int (m : Int)), some (.str "abcdefghijklmnopqrstuvwxyz"), some (.ref fo), some (.str front), some (.int (0 + (i : Int))), y6, some (.str wd)] ∧
        H' = H9 ∧ wd.cps.toList = walkW (ns.map fun x => x.cps.toList) (fun j => 97 + (7 * j + i) % 26) (front.cps.toList ++ cs) j) ?_ (fun _ _ _ _ _ => trivial) ?_ ?_
      · exact ⟨y6, _, rfl, rfl, hw0⟩
      · rintro j x0 σ H10 H11 hj ⟨y6, wd, rfl, rfl, hwd⟩ ⟨rfl, rfl⟩
        have hwl := walkW_len (found := ns.map fun x => x.cps.toList) (L := fun j => 97 + (7 * j + i) % 26) (w := front.cps.toList ++ cs) (by rw [List.length_append, hcl]; omega) (by rw [List.length_append, hcl]; omega) j
        rw [← hwd, len_cps] at hwl
        have hnext : walkW (ns.map fun x => x.cps.toList) (fun j => 97 + (7 * j + i) % 26) (front.cps.toList ++ cs) (j + 1) = if wd.cps.toList ∈ (ns.map fun x => x.cps.toList) then wd.cps.toList.take 4 ++ [97 + (7 * j + i) % 26] else wd.cps.toList := by
          rw [walkW, ← hwd]; rfl
        refine ⟨_, rfl, _, rfl, fo, _, rfl, .inl (.inl (.inl hfo9)), rfl, flat_strs _, _, rfl, ?_⟩
        rw [in_strs]
        refine if_dec (fun z => ?_) fun z => ?_
        · have hix : (0 : Int) ≤ (7 * (0 + (j : Int)) + (0 + (i : Int))) % 26 ∧ (7 * (0 + (j : Int)) + (0 + (i : Int))) % 26 < 26 := ⟨Int.emod_nonneg _ (by decide), Int.emod_lt_of_pos _ (by decide)⟩
          obtain ⟨c, g2, g3, g4, g5⟩ := at26 _ hix.1 hix.2
          have hc : c = 97 + (7 * j + i) % 26 := by rw [g5]; congr 1; omega
          have hcut : (cutS wd none (some 4)).length ≤ 4 := by
            rw [← len_cps, cut4_cps, List.length_take]; omega
          refine ⟨_, rfl, 4, rfl, wd, rfl, sz_ok (by omega), _, rfl, _, rfl, 7, 0 + (j : Int), rfl, rfl, .inl ⟨by decide, by decide⟩, _, rfl, _, _, rfl, rfl, .inl ⟨_, rfl, _, 26, rfl, rfl, (by show (0 : Int) < 26; decide), ?_⟩⟩
          refine ⟨_, _, c, rfl, rfl, lt, g2, _, _, rfl, rfl, sz_ok ?_, _, _, rfl, rfl, ?_⟩
          · show (cutS wd none (some 4)).length + 1 ≤ 100000; omega
          · rw [hnext, if_pos (cps_mem.mpr z), cat_cps, cut4_cps, hc]
        · exact ⟨_, rfl, _, _, rfl, rfl, by rw [hnext, if_neg (fun y => z (cps_mem.mp y))]⟩
      · rintro σ H10 ⟨y6, wd, rfl, rfl, hwd⟩
        have inj : ∀ x y, x ≤ m → y ≤ m → 97 + (7 * x + i) % 26 = 97 + (7 * y + i) % 26 → x = y := fun x y hx hy h => by omega
        have h1 : 1 ≤ (front.cps.toList ++ cs).length := by rw [List.length_append, hcl]; omega
        have h5 : (front.cps.toList ++ cs).length ≤ 5 := by rw [List.length_append, hcl]; omega
        have hnew : wd ∉ ns := fun z => walkW_new (found := ns.map fun x => x.cps.toList) (L := fun j => 97 + (7 * j + i) % 26) (m := m) inj h1 h5 (by rw [List.length_map]; omega) (by rw [← hwd]; exact cps_mem.mpr z)
        have hwl := walkW_len (found := ns.map fun x => x.cps.toList) (L := fun j => 97 + (7 * j + i) % 26) h1 h5 (m + 1)
        rw [← hwd, len_cps] at hwl
        have hlow : ∀ c ∈ wd.cps.toList, 97 ≤ c ∧ c ≤ 122 := by
          rw [hwd]
          exact walkW_in (P := fun c => 97 ≤ c ∧ c ≤ 122) (fun c hc => (List.mem_append.mp hc).elim (hfl c) (hcs c)) (fun j => ⟨by omega, by omega⟩) (m + 1)
        refine ⟨_, rfl, .inl ⟨rfl, _, .inl (.inl hfo9)⟩, _, rfl, fo, _, _, rfl, rfl, hfo9, by rw [List.length_map]; exact sz_lt (by omega), ?_⟩
        refine ⟨_, _, _, ns ++ [wd], rfl, e69.lstF ffo hfo9, ?_, by rw [List.length_append, hlen]; rfl, ?_, fun s hs => ?_, ?_⟩
        · rw [upd_same, List.map_append]; rfl
        · rw [List.nodup_append]
          exact ⟨hnd, List.nodup_cons.mpr ⟨by simp, .nil⟩, fun x hx y hy z => by rw [List.mem_singleton.mp hy] at z; exact hnew (z ▸ hx)⟩
        · rcases List.mem_append.mp hs with hs | hs
          · exact hnm s hs
          · rw [List.mem_singleton.mp hs]; exact ⟨hwl.1, hwl.2, hlow⟩
        · rcases hxn with ⟨f0, hx⟩ | ⟨f0, hx⟩
          · refine .inl ⟨f0, fun s hs z => ?_⟩
            rcases List.mem_append.mp hs with hs | hs
            · exact hx s hs z
            · rw [List.mem_singleton.mp hs] at z
              have f1 : 1 ≤ front.cps.toList.length := List.length_pos_iff.mpr f0
              refine walk_x (found := ns.map fun x => x.cps.toList) (L := fun j => 97 + (7 * j + i) % 26) (w := front.cps.toList ++ cs) (by rw [List.length_append, hcl]; omega) (m + 1) ?_
              rw [← hwd, z]
              decide +kernel
          · refine .inr ⟨f0, fun s hs z => ?_⟩
            rcases List.mem_append.mp hs with hs | hs
            · exact hx s hs z
            · rw [List.mem_singleton.mp hs] at z
              refine walk_nuts (found := ns.map fun x => x.cps.toList) (w := front.cps.toList ++ cs) (i := i) h1 (by rw [List.length_append, hcl, f0]; simp; omega) (by omega) (m + 1) ?_
              rw [← hwd, z]
              decide +kernel
  · rintro σ H6 ⟨y5, y6, y7, ns, rfl, e6, hns, hlen, hnd, hnm, hxn⟩
    exact ⟨_, rfl, q H6 fo ns ffo e6 hns hlen hnd hnm (hxn.imp (·.2) (·.2))⟩
end
end K23
/-! V4: _law_sums. -/
namespace K23
open PySem PySem.Spec PyProof.Rows L2
def tupI (v : List Int) : PyData := .tuple (v.map .int)
theorem flat_intD : ∀ ns : List Int, flatDs (ns.map PyData.int) = true
  | [] => rfl
  | n :: r => by rw [List.map_cons, flatDs, flat_intD r]; rfl
theorem flat_tupI (t : List Int) : flatD (tupI t) = true := by unfold tupI; rw [flatD, flat_intD]
def addV (a b : List Int) : List Int := (List.range a.length).map fun i => a.getD i 0 + b.getD i 0
def keyI (v : List Int) : List Key := v.map Sum.inl
theorem keyI_V (v : List Int) : (keyI v).map kV = v.map V.int := by
  unfold keyI; rw [List.map_map]; rfl
theorem keyI_inj : ∀ {a b : List Int}, keyI a = keyI b → a = b
  | [], [], _ => rfl
  | [], _ :: _, h => by cases h
  | _ :: _, [], h => by cases h
  | x :: a, y :: b, h => by
    unfold keyI at h
    rw [List.map_cons, List.map_cons] at h
    injection h with h1 h2
    rw [Sum.inl.inj h1, keyI_inj h2]
theorem putT_keys (kvs : List (List Key × V)) (k : List Key) (v : V) : (k ∈ kvs.map (·.1) ∧ (putK kvs k v).map (·.1) = kvs.map (·.1)) ∨ (k ∉ kvs.map (·.1) ∧ (putK kvs k v).map (·.1) = kvs.map (·.1) ++ [k]) := by
  unfold putK
  have e : (kvs.any fun kv => decide (kv.1 = k)) = true ↔ k ∈ kvs.map (·.1) := by
    rw [List.any_eq_true, List.mem_map]
    exact ⟨fun ⟨x, hx, h⟩ => ⟨x, hx, of_decide_eq_true h⟩, fun ⟨x, hx, h⟩ => ⟨x, hx, decide_eq_true h⟩⟩
  by_cases h : (kvs.any fun kv => decide (kv.1 = k)) = true
  · rw [if_pos h, List.map_map]
    refine .inl ⟨e.mp h, List.map_congr_left fun x _ => ?_⟩
    show (if x.1 = k then (x.1, v) else x).1 = x.1
    split <;> rfl
  · rw [if_neg h, List.map_append]
    exact .inr ⟨fun z => h (e.mpr z), rfl⟩
theorem putT_len (kvs : List (List Key × V)) (k : List Key) (v : V) : (putK kvs k v).length ≤ kvs.length + 1 := by
  unfold putK
  split
  · rw [List.length_map]; omega
  · rw [List.length_append]; exact Nat.le_refl _
section
variable {T : Tl} {P : Program} {w : World} {K : PySem.W.Frag} {mg : Str → Option Value} {base : Heap} {A : Nat → Addr} {D : Nat → FuncData}
theorem isKeys_dpa {H : Hp} : ∀ {kvs : List (List Key × V)} {bs : List Addr} {vs : List (List Int)}, kvs.map (·.1) = vs.map keyI → IsKeys H kvs bs → DpAll K H (bs.map V.ref) (vs.map tupI)
  | [], bs, vs, h, k => by
    cases k
    have : vs = [] := List.map_eq_nil_iff.mp h.symm
    rw [this]; exact .nil
  | q :: r, bs, vs, h, k => by
    cases k with
    | cons h1 h2 =>
      cases vs with
      | nil => cases h
      | cons v vs =>
        rw [List.map_cons, List.map_cons] at h
        injection h with h3 h4
        have h1' : H _ = some (.tup (q.1.map kV)) := h1
        rw [h3, keyI_V] at h1'
        exact .cons (.tup (.inl (.inl h1')) (dpa_of_ints _)) (isKeys_dpa h4 h2)
/-- rows of whole numbers, all of one length -/
def Rows (n : Nat) (R : List (List Int)) : Prop := ∀ v ∈ R, v.length = n
def spSums (T : Tl) (K : PySem.W.Frag) : Sp := fun vs H Q _ => ∃ (r o : Addr) (xs ys : List V) (R O : List (List Int)) (n : Nat), vs = [.ref r, .ref o] ∧ SqL K H r xs ∧ DpAll K H xs (R.map tupI) ∧ SqL K H o ys ∧ DpAll K H ys (O.map tupI) ∧ Rows n R ∧ Rows n O ∧ n ≤ 8 ∧ R.length ≤ 300 ∧ O.length ≤ 300 ∧
  ∀ H' p (zs : List V) (V' : List (List Int)), Fr H p → Ex T H H' → H' p = some (.lst zs) → DpAll K H' zs (V'.map tupI) → V'.Nodup → (∀ v, v ∈ V' ↔ ∃ a ∈ R, ∃ b ∈ O, v = addV a b) → Q (.ref p) H'
theorem ok_sums (U : Txt K mg A D) : FnOk P w K mg base CX0 1 (A 46) (D 46) ["_law_rows", "_law_others"] (spSums T K) := by
  refine (F_l_sums U).ok sc_l_sums (fun vs H Q E h => by obtain ⟨_, _, _, _, _, _, _, rfl, _⟩ := h; rfl) (fun cdv A' outer s H vs Q E hr h => ?_)
  obtain ⟨r, o, xs, ys, R, O, n, rfl, hr1, hxs, ho1, hys, hR, hO, hn, hRl, hOl, q⟩ := h
  refine ⟨_, PSs.nox (pss_cons
      (ps_set (i := 2) sc_l_sums.nd rfl (.inl rfl) pe_dnewT)
      (pss_cons
      (ps_for PassesOwn.never rfl (ki_list K (pv 0)) (pg_name (i := 3) sc_l_sums.nd rfl (.inr rfl))
       (pss_one
       (ps_for PassesOwn.never rfl (ki_list K (pv 1)) (pg_name (i := 4) sc_l_sums.nd rfl (.inr rfl))
        (pss_one
        (ps_dput (hu_of hr) (pv 2) (pe_callTy (kc_tuple K) (by rfl) (z_tuple U) boot_tuple (pa_cons (pe_lc (g := gName 5) (tt := tYes) rfl sc_l_sums.nd (pi_range1 (by rfl) (z_range U) (pa_cons (pe_callB (kc_len K) (by rfl) (z_len U) boot_len (pa_cons (pv 3) pa_nil)) pa_nil)) (blkOk_by (N := N_l_sums) (own := [("_law_at", 5)]) (by kernel_rfl)) (fun _ _ _ _ _ => (pg_name (i := 5) sc_l_sums.nd rfl (.inl rfl))) (fun _ _ _ _ _ => pts_nil) (fun _ _ _ _ _ => (pe_op op_add (pe_ix (kx_tup K) (pv 3) (pv 5) (fun _ _ => rfl)) (pe_ix (kx_tup K) (pv 4) (pv 5) (fun _ _ => rfl))))) pa_nil)) pe_bl (by kernel_rfl))))))
      (pss_one
      (ps_ret (pe_callTy (call_list_dT rfl) (by rfl) (z_list U) boot_list (pa_cons (pv 2) pa_nil)))))), ?_⟩
  have hxl : xs.length = R.length := by rw [dpa_len hxs, List.length_map]
  have hyl : ys.length = O.length := by rw [dpa_len hys, List.length_map]
  refine fun d hd => ?_
  have e1 : Ex T H (upd H d (.dT [])) := Ex.new hd
  have fd : Fr H d := Fr.of hd
  -- what has been laid so far
  let St : Nat → Nat → Hp → Prop := fun i j H' => Ex T H H' ∧ ∃ (kvs : List (List Key × V)) (V' : List (List Int)), H' d = some (.dT kvs) ∧ kvs.map (·.1) = V'.map keyI ∧ kvs.length ≤ i * 300 + j ∧ V'.Nodup ∧
    (∀ v ∈ V', ∃ a ∈ R, ∃ b ∈ O, v = addV a b) ∧ (∀ i' a b, i' < i → R[i']? = some a → b ∈ O → addV a b ∈ V') ∧ ∀ a j' b, R[i]? = some a → j' < j → O[j']? = some b → addV a b ∈ V'
  refine ⟨_, rfl, r, rfl, ⟨xs, e1.sl hr1⟩, ?_⟩
  refine for_it (walk_list (xs := xs)) (fun i σ H' => ∃ y3 y4, σ = [some (.ref r), some (.ref o), some (.ref d), y3, y4, none] ∧ St i 0 H') ?_ ?_ ?_ ?_
  · refine ⟨none, none, rfl, e1, [], [], upd_same, rfl, Nat.zero_le _, .nil, fun v h => (by cases h), fun i' a b h => (by omega), fun a j' b _ h => (by omega)⟩
  · rintro i σ H' _ ⟨_, _, _, e, _⟩; exact e.sl hr1
  · rintro i x σ H2 H3 hi ⟨y3, y4, rfl, hS⟩ ⟨rfl, hx⟩
    obtain ⟨a, ha⟩ : ∃ a, R[i]? = some a := ⟨R[i]'(by omega), List.getElem?_eq_getElem (by omega)⟩
    have ham := List.mem_of_getElem? ha
    obtain ⟨la, rfl, hla⟩ := (at_dat hxs ha hx).tup_ints
    have hal := hR a ham
    refine ⟨_, rfl, o, rfl, ⟨ys, hS.1.sl ho1⟩, ?_⟩
    refine for_it (walk_list (xs := ys)) (fun j σ H' => ∃ y4, σ = [some (.ref r), some (.ref o), some (.ref d), some (.ref la), y4, none] ∧ St i j H') ⟨y4, rfl, hS⟩ ?_ ?_ ?_
    · rintro j σ H' _ ⟨_, _, e, _⟩; exact e.sl ho1
    · rintro j y σ H4 H5 hj ⟨y4, rfl, hS4⟩ ⟨rfl, hy⟩
      obtain ⟨e4, kvs, V', h1, h2, h3, h4, h5, h6, h7⟩ := hS4
      obtain ⟨b, hb⟩ : ∃ b, O[j]? = some b := ⟨O[j]'(by omega), List.getElem?_eq_getElem (by omega)⟩
      have hbm := List.mem_of_getElem? hb
      obtain ⟨lb, rfl, hlb⟩ := (at_dat hys hb hy).tup_ints
      have hbl := hO b hbm
      refine ⟨_, rfl, _, rfl, la, _, rfl, .inr (e4.st hla), _, rfl, by rw [List.length_map]; omega, by rw [List.length_map]; omega, fun D hD => ?_⟩
      rw [show ((a.map V.int).length : Int).toNat = a.length by rw [List.length_map, Int.toNat_natCast]]
      refine map_rng (T := T) (K := K) (fun i => some (.int (a.getD i 0 + b.getD i 0))) (by omega) hD ?_ ?_
      · rintro i0 x0 H6 E N hi0 e6 rfl _ hE
        have g1 : (a.map V.int)[i0]? = some (.int (a.getD i0 0)) := by
          rw [List.getElem?_map, List.getElem?_eq_getElem hi0, List.getD_eq_getElem?_getD, List.getElem?_eq_getElem hi0]; rfl
        have g2 : (b.map V.int)[i0]? = some (.int (b.getD i0 0)) := by
          have hi1 : i0 < b.length := by omega
          rw [List.getElem?_map, List.getElem?_eq_getElem hi1, List.getD_eq_getElem?_getD, List.getElem?_eq_getElem hi1]; rfl
        exact ⟨rfl, _, rfl, _, rfl, la, _, (i0 : Int), _, rfl, rfl, e6.st (e4.st hla), atI_nat g1, _, rfl, _, rfl, lb, _, (i0 : Int), _, rfl, rfl, e6.st (e4.st hlb), atI_nat g2, _, _, rfl, rfl, hE _ rfl _ H6 (Ex.refl _) rfl (.int _)⟩
      · intro zs H6 e6 h6' hz
        rw [fm_some, show ((List.range a.length).map fun i => PyData.int (a.getD i 0 + b.getD i 0)) = (addV a b).map .int by unfold addV; rw [List.map_map]; rfl] at hz
        have := dpa_ints hz
        subst this
        refine ⟨D, _, rfl, .inl ⟨.inl (.inl h6'), fun t ht => ?_⟩⟩
        have e7 : Ex T H5 (upd H6 t (.tup ((addV a b).map V.int))) := e6.trans (Ex.new ht)
        have hd7 : (upd H6 t (.tup ((addV a b).map V.int))) d = some (.dT kvs) := e7.keep _ _ h1 fun _ z => by cases z
        have hkl : kvs.length < 100000 := by omega
        refine ⟨d, _, rfl, DPut.t (k := keyI (addV a b)) hd7 (by rw [keyI_V]; exact upd_same) (sz_lt hkl), ?_⟩
        have e8 : Ex T H (upd (upd H6 t (.tup ((addV a b).map V.int))) d (.dT (putK kvs (keyI (addV a b)) (.bl true)))) := (e4.trans e7).mutF fd hd7 (fun _ z => by cases z) fun _ _ => codeO_dT
        have pl := putT_len kvs (keyI (addV a b)) (.bl true)
        refine ⟨_, rfl, e8, putK kvs (keyI (addV a b)) (.bl true), ?_⟩
        have hmem : ∀ v, keyI v ∈ kvs.map (·.1) ↔ v ∈ V' := fun v => by
          rw [h2, List.mem_map]
          exact ⟨fun ⟨u, hu, e⟩ => by rw [← keyI_inj e]; exact hu, fun h => ⟨v, h, rfl⟩⟩
        rcases putT_keys kvs (keyI (addV a b)) (.bl true) with ⟨p1, p2⟩ | ⟨p1, p2⟩
        · refine ⟨V', upd_same, by rw [p2, h2], by omega, h4, h5, h6, fun a' j' b' ha' hj' hb' => ?_⟩
          rw [ha] at ha'; cases ha'
          by_cases z : j' = j
          · subst z; rw [hb] at hb'; cases hb'; exact (hmem _).mp p1
          · exact h7 a j' b' ha (by omega) hb'
        · have hnew : addV a b ∉ V' := fun z => p1 ((hmem _).mpr z)
          refine ⟨V' ++ [addV a b], upd_same, by rw [p2, h2, List.map_append]; rfl, by omega, ?_, fun v hv => ?_, fun i' a' b' h8 h9 h10 => List.mem_append_left _ (h6 i' a' b' h8 h9 h10), fun a' j' b' ha' hj' hb' => ?_⟩
          · rw [List.nodup_append]
            exact ⟨h4, List.nodup_cons.mpr ⟨by simp, .nil⟩, fun x hx y hy z => by rw [List.mem_singleton.mp hy] at z; exact hnew (z ▸ hx)⟩
          · rcases List.mem_append.mp hv with hv | hv
            · exact h5 v hv
            · rw [List.mem_singleton.mp hv]; exact ⟨a, ham, b, hbm, rfl⟩
          · rw [ha] at ha'; cases ha'
            by_cases z : j' = j
            · subst z; rw [hb] at hb'; cases hb'; exact List.mem_append_right _ (List.mem_singleton_self _)
            · exact List.mem_append_left _ (h7 a j' b' ha (by omega) hb')
    · rintro σ H4 ⟨y4, rfl, hS4⟩
      refine ⟨_, _, rfl, hS4.1, ?_⟩
      obtain ⟨_, kvs, V', h1, h2, h3, h4, h5, h6, h7⟩ := hS4
      refine ⟨kvs, V', h1, h2, by omega, h4, h5, fun i' a' b hi' ha' hb => ?_, fun a j' b _ h => by omega⟩
      by_cases z : i' = i
      · subst z
        obtain ⟨j', hj', e⟩ := List.mem_iff_getElem.mp hb
        exact h7 a' j' b ha' (by omega) (by rw [List.getElem?_eq_getElem hj', e])
      · exact h6 i' a' b (by omega) ha' hb
  · rintro σ H2 ⟨y3, y4, rfl, e2, kvs, V', h1, h2, h3, h4, h5, h6, h7⟩
    refine ⟨_, rfl, d, kvs, rfl, .inl h1, fun p bs hp hk => ?_⟩
    refine q _ p _ V' (Fr.new e2 hp) (e2.trans (Ex.new hp)) upd_same ((Ex.new (T := T) hp).dpa (isKeys_dpa h2 hk)) h4 fun v => ⟨h5 v, fun ⟨a, ha, b, hb, e⟩ => ?_⟩
    obtain ⟨i', hi', e'⟩ := List.mem_iff_getElem.mp ha
    rw [e]
    exact h6 i' a b (by omega) (by rw [List.getElem?_eq_getElem hi', e']) hb
end
end K23
set_option autoImplicit false
/-! M9: ways, one part at a time. -/
namespace K23
section
variable {α : Type} [DecidableEq α]
theorem way_some {B : Nat} {f : Fm α} (wf : Wf B f) (nd : f.names.Nodup) {w : α → Int} (h : Way f w) : ∃ s ∈ f.names, 0 < w s := by
  obtain ⟨s, h1, _, h2⟩ := no_free_way (ρ := fun _ => 0) (L := []) wf nd (endless_nil wf) h
  exact ⟨s, h1, h2⟩
/-- V tells the vectors of what Q tells, each once -/
def Tells (Q : (α → Int) → Prop) (K : List α) (V : List (List Int)) : Prop := V.Nodup ∧ ∀ v, v ∈ V ↔ ∃ w, Q w ∧ v = K.map w
theorem Tells.few {Q : (α → Int) → Prop} {K : List α} {V : List (List Int)} {r : Nat} {f : Fm α} (h : Tells Q K V) (hq : ∀ w, Q w → Way f w) (wf : Wf r f) (h5 : f.names.length ≤ 5) (hr : r ≤ room f.names.length) : V.length < 64 :=
  ways_few wf h5 hr h.1 fun v hv => by
    obtain ⟨w, hw, e⟩ := (h.2 v).mp hv
    exact ⟨w, hq w hw, e⟩
/-- many of a part -/
def Many (p : Fm α) (i : Nat) (w : α → Int) : Prop := ∃ ws : List (α → Int), ws.length = i ∧ (∀ v ∈ ws, Way p v) ∧ w = sumF ws
theorem sumF_one (w : α → Int) : sumF [w] = w := by funext s; rw [sumF, sumF, Int.add_zero]
theorem many_one {p : Fm α} {w : α → Int} : Many p 1 w ↔ Way p w := by
  constructor
  · rintro ⟨ws, hl, hw, rfl⟩
    obtain ⟨v, rfl⟩ := List.length_eq_one_iff.mp hl
    rw [sumF_one]; exact hw v List.mem_cons_self
  · intro h
    exact ⟨[w], rfl, fun v hv => by rw [List.mem_singleton.mp hv]; exact h, (sumF_one w).symm⟩
theorem many_succ {p : Fm α} {i : Nat} {w : α → Int} : Many p (i + 1) w ↔ ∃ u v, Many p i u ∧ Way p v ∧ w = fun s => u s + v s := by
  constructor
  · rintro ⟨ws, hl, hw, rfl⟩
    match ws, hl, hw with
    | v :: r, hl, hw =>
      refine ⟨sumF r, v, ⟨r, by simpa using hl, fun x hx => hw x (List.mem_cons_of_mem _ hx), rfl⟩, hw v List.mem_cons_self, ?_⟩
      funext s; rw [sumF, Int.add_comm]
  · rintro ⟨u, v, ⟨r, hl, hw, rfl⟩, hv, rfl⟩
    refine ⟨v :: r, by rw [List.length_cons, hl], fun x hx => ?_, ?_⟩
    · rcases List.mem_cons.mp hx with rfl | hx
      · exact hv
      · exact hw x hx
    · funext s; rw [sumF, Int.add_comm]
theorem many_way {p : Fm α} {i : Nat} {w : α → Int} (h : Many p i w) : Way (.many i p) w := way_many.mpr h
theorem wayAll_one {p : Fm α} {w : α → Int} : WayAll [p] w ↔ Way p w := by
  rw [WayAll]
  constructor
  · rintro ⟨u, v, hu, hv, rfl⟩
    rw [WayAll] at hv
    rw [hv, show (fun s => u s + (fun _ => (0 : Int)) s) = u by funext s; exact Int.add_zero _]; exact hu
  · intro h
    exact ⟨w, fun _ => 0, h, by rw [WayAll], by funext s; exact (Int.add_zero _).symm⟩
theorem wayAll_snoc {p : Fm α} : ∀ {qs : List (Fm α)} {w : α → Int}, WayAll (qs ++ [p]) w ↔ ∃ u v, WayAll qs u ∧ Way p v ∧ w = fun s => u s + v s
  | [], w => by
    rw [List.nil_append, wayAll_one]
    constructor
    · intro h
      exact ⟨fun _ => 0, w, by rw [WayAll], h, by funext s; exact (Int.zero_add _).symm⟩
    · rintro ⟨u, v, hu, hv, rfl⟩
      rw [WayAll] at hu
      rw [hu, show (fun s => (fun _ => (0 : Int)) s + v s) = v by funext s; exact Int.zero_add _]; exact hv
  | q :: r, w => by
    rw [List.cons_append, WayAll]
    constructor
    · rintro ⟨a, b, ha, hb, rfl⟩
      obtain ⟨u, v, hu, hv, rfl⟩ := wayAll_snoc.mp hb
      refine ⟨fun s => a s + u s, v, ?_, hv, by funext s; exact (Int.add_assoc _ _ _).symm⟩
      rw [WayAll]; exact ⟨a, u, ha, hu, rfl⟩
    · rintro ⟨x, v, hx, hv, rfl⟩
      rw [WayAll] at hx
      obtain ⟨a, u, ha, hu, rfl⟩ := hx
      exact ⟨a, fun s => u s + v s, ha, wayAll_snoc.mpr ⟨u, v, hu, hv, rfl⟩, by funext s; exact Int.add_assoc _ _ _⟩
/-- the ways of one of these parts -/
def AnyOf (ps : List (Fm α)) (w : α → Int) : Prop := ∃ p ∈ ps, Way p w
theorem anyOf_snoc {p : Fm α} {qs : List (Fm α)} {w : α → Int} : AnyOf (qs ++ [p]) w ↔ AnyOf qs w ∨ Way p w := by
  constructor
  · rintro ⟨q, hq, h⟩
    rcases List.mem_append.mp hq with hq | hq
    · exact .inl ⟨q, hq, h⟩
    · rw [List.mem_singleton.mp hq] at h; exact .inr h
  · rintro (⟨q, hq, h⟩ | h)
    · exact ⟨q, List.mem_append_left _ hq, h⟩
    · exact ⟨p, List.mem_append_right _ (List.mem_singleton_self _), h⟩
/-- the vectors of different parts are different -/
theorem ways_apart {B : Nat} {p q : Fm α} {K : List α} (wp : Wf B p) (np : p.names.Nodup) (hK : ∀ s ∈ p.names, s ∈ K) (ap : ∀ s ∈ p.names, s ∉ q.names) {u v : α → Int} (hu : Way p u) (hv : Way q v) : K.map u ≠ K.map v := fun e => by
  obtain ⟨s, hs, h0⟩ := way_some wp np hu
  have h1 := way_out hv s (ap s hs)
  obtain ⟨i, hi, h2⟩ := List.mem_iff_getElem.mp (hK s hs)
  have h3 := congrArg (fun l => l[i]?) e
  simp only [List.getElem?_map, List.getElem?_eq_getElem hi, h2, Option.map_some] at h3
  have := Option.some.inj h3
  omega
theorem tells_congr {Q Q' : (α → Int) → Prop} {K : List α} {V : List (List Int)} (h : Tells Q K V) (e : ∀ w, Q w ↔ Q' w) : Tells Q' K V := ⟨h.1, fun v => (h.2 v).trans ⟨fun ⟨w, a, b⟩ => ⟨w, (e w).mp a, b⟩, fun ⟨w, a, b⟩ => ⟨w, (e w).mpr a, b⟩⟩⟩
theorem room_le {a b : Nat} (h : a ≤ b) (hb : b ≤ 5) : room b ≤ room a := by
  have key : ∀ b, b < 6 → ∀ a, a ≤ b → room b ≤ room a := by decide
  exact key b (by omega) a h
end
end K23
/-! V5: _law_ways. -/
namespace K23
open PySem PySem.Spec PyProof.Rows L2
theorem addV_map (K : List Str) (u v : Str → Int) : addV (K.map u) (K.map v) = K.map fun s => u s + v s := by
  unfold addV
  rw [List.length_map]
  refine List.ext_getElem (by rw [List.length_map, List.length_range, List.length_map]) fun i h1 h2 => ?_
  rw [List.length_map, List.length_range] at h1
  rw [List.getElem_map, List.getElem_map, List.getElem_range, List.getD_eq_getElem?_getD, List.getD_eq_getElem?_getD, List.getElem?_map, List.getElem?_map, List.getElem?_eq_getElem h1]
  rfl
theorem tells_sum {Q1 Q2 : (Str → Int) → Prop} {K : List Str} {V1 V2 V' : List (List Int)} (h1 : Tells Q1 K V1) (h2 : Tells Q2 K V2) (nd : V'.Nodup) (h : ∀ v, v ∈ V' ↔ ∃ a ∈ V1, ∃ b ∈ V2, v = addV a b) :
    Tells (fun w => ∃ u v, Q1 u ∧ Q2 v ∧ w = fun s => u s + v s) K V' := by
  refine ⟨nd, fun v => (h v).trans ⟨fun ⟨a, ha, b, hb, e⟩ => ?_, fun ⟨w, ⟨u, x, hu, hx, e1⟩, e2⟩ => ?_⟩⟩
  · obtain ⟨u, hu, rfl⟩ := (h1.2 a).mp ha
    obtain ⟨x, hx, rfl⟩ := (h2.2 b).mp hb
    exact ⟨_, ⟨u, x, hu, hx, rfl⟩, by rw [e, addV_map]⟩
  · exact ⟨K.map u, (h1.2 _).mpr ⟨u, hu, rfl⟩, K.map x, (h2.2 _).mpr ⟨x, hx, rfl⟩, by rw [addV_map, e2, e1]⟩
theorem tells_rows {Q : (Str → Int) → Prop} {K : List Str} {V : List (List Int)} (h : Tells Q K V) : Rows K.length V := fun v hv => by
  obtain ⟨w, _, rfl⟩ := (h.2 v).mp hv
  exact List.length_map ..
/-- the ways of the first parts of a joint -/
def Fst (b : Bool) (qs : List (Fm Str)) (w : Str → Int) : Prop := if b then WayAll qs w else AnyOf qs w
theorem fst_way {b : Bool} {qs : List (Fm Str)} {w : Str → Int} (h : Fst b qs w) : Way (.node b qs) w := by
  cases b with
  | true => exact way_and.mpr h
  | false => exact way_or.mpr (wayAny_iff.mpr h)
theorem fst_iff {b : Bool} {qs : List (Fm Str)} {w : Str → Int} : Fst b qs w ↔ Way (.node b qs) w := by
  refine ⟨fst_way, fun h => ?_⟩
  cases b with
  | true => exact way_and.mp h
  | false => exact wayAny_iff.mp (way_or.mp h)
theorem take_names {b : Bool} {ps : List (Fm Str)} (i : Nat) : (Fm.node b (ps.take i)).names.Sublist (Fm.node b ps).names := by
  rw [names_node, names_node]
  have e : ps = ps.take i ++ ps.drop i := (List.take_append_drop _ _).symm
  conv => rhs; rw [e, List.flatMap_append]
  exact List.sublist_append_left _ _
section
variable {T : Tl} {P : Program} {w : World} {K : PySem.W.Frag} {mg : Str → Option Value} {base : Heap} {A : Nat → Addr} {D : Nat → FuncData}
def spWays (T : Tl) (K : PySem.W.Frag) (n : Nat) : Sp := fun vs H Q _ => ∃ (v : V) (f : Fm Str) (k : Addr) (Ks : List Str) (r : Nat), vs = [v, .ref k] ∧ Dp K H v (enc f) ∧ f.names.Nodup ∧ f.names.length ≤ 5 ∧ Wf r f ∧ r ≤ room f.names.length ∧ depth f < n ∧ SqT K H k (Ks.map V.str) ∧ Ks.length ≤ 8 ∧ (∀ s ∈ f.names, s ∈ Ks) ∧
  ∀ H' p (zs : List V) (V' : List (List Int)), Fr H p → Ex T H H' → H' p = some (.lst zs) → DpAll K H' zs (V'.map tupI) → Tells (Way f) Ks V' → Q (.ref p) H'
theorem ok_ways (U : Txt K mg A D) : ∀ n, FnOk P w K mg base CX0 (n + 1) (A 47) (D 47) ["_law_formula_here", "_law_kinds"] (spWays T K n)
  | 0 => ⟨fun vs H Q E h => by obtain ⟨_, _, _, _, _, _, _, _, _, _, _, h, _⟩ := h; omega, fun _ _ _ H _ _ vs Q E _ _ _ _ h => by obtain ⟨_, _, _, _, _, _, _, _, _, _, _, h, _⟩ := h; omega⟩
  | n + 1 => by
    have G_l_ways : FnOk P w K mg base CX0 (n + 1) (A 47) (D 47) ["_law_formula_here", "_law_kinds"] (spWays T K n) := ok_ways U n
    have G_l_sums : FnOk P w K mg base CX0 1 (A 46) (D 46) ["_law_rows", "_law_others"] (spSums T K) := ok_sums U
    refine (F_l_ways U).ok sc_l_ways (fun vs H Q E h => by obtain ⟨_, _, _, _, _, rfl, _⟩ := h; rfl) (fun cdv A' outer s H vs Q E hr h => ?_)
    obtain ⟨v, f, k, Ks, r, rfl, hv, hnd, h5, hwf, hro, hdep, hk, hK8, hKs, q⟩ := h
    refine ⟨_, PSs.nox (pss_cons
      (ps_if (pt_cmpR op_eq (pe_ix (kx_tup K) (pv 0) pe_int (fun _ _ => rfl)) pe_str (nomark _))
       (pss_one
       (ps_ret (pe_lst (pa_cons (pe_callTy (kc_tuple K) (by rfl) (z_tuple U) boot_tuple (pa_cons (pe_lc (g := gName 6) (tt := tYes) rfl sc_l_ways.nd (ki_tup K (pv 1)) (blkOk_by (N := N_l_ways) (own := [("_law_kind", 6)]) (by kernel_rfl)) (fun _ _ _ _ _ => (pg_name (i := 6) sc_l_ways.nd rfl (.inl rfl))) (fun _ _ _ _ _ => pts_nil) (fun _ _ _ _ _ => (pe_callTy (call_int1) (by rfl) (z_int U) boot_int (pa_cons (pe_cmpR op_eq (pv 6) (pe_ix (kx_tup K) (pv 0) pe_int (fun _ _ => rfl)) (nomark _)) pa_nil)))) pa_nil)) pa_nil))))
       pss_nil)
      (pss_cons
      (ps_if (pt_cmpR op_eq (pe_ix (kx_tup K) (pv 0) pe_int (fun _ _ => rfl)) pe_str (nomark _))
       (pss_cons
       (ps_set (i := 2) sc_l_ways.nd rfl (.inl rfl) (pe_f G_l_ways hr (by omega) (g_l_ways U) (F_l_ways U).kp (b_l_ways U) (pa_cons (pe_ix (kx_tup K) (pv 0) pe_int (fun _ _ => rfl)) (pa_cons (pv 1) pa_nil))))
       (pss_cons
       (ps_set (i := 3) sc_l_ways.nd rfl (.inl rfl) (pv 2))
       (pss_cons
       (ps_for PassesOwn.never rfl (pi_range1 (by rfl) (z_range U) (pa_cons (pe_op op_sub (pe_ix (kx_tup K) (pv 0) pe_int (fun _ _ => rfl)) pe_int) pa_nil)) (pg_name (i := 4) sc_l_ways.nd rfl (.inl rfl))
        (pss_one
        (ps_set (i := 3) sc_l_ways.nd rfl (.inl rfl) (pe_f G_l_sums hr (by omega) (g_l_sums U) (F_l_sums U).kp (b_l_sums U) (pa_cons (pv 3) (pa_cons (pv 2) pa_nil))))))
       (pss_one
       (ps_ret (pv 3))))))
       pss_nil)
      (pss_cons
      (ps_set (i := 3) sc_l_ways.nd rfl (.inl rfl) (pe_f G_l_ways hr (by omega) (g_l_ways U) (F_l_ways U).kp (b_l_ways U) (pa_cons (pe_ix (kx_tup K) (pe_ix (kx_tup K) (pv 0) pe_int (fun _ _ => rfl)) pe_int (fun _ _ => rfl)) (pa_cons (pv 1) pa_nil))))
      (pss_cons
      (ps_for PassesOwn.never rfl (ki_tup K (pe_slice (ks_tup K) (pe_ix (kx_tup K) (pv 0) pe_int (fun _ _ => rfl)) (po_some pe_int) po_none)) (pg_name (i := 5) sc_l_ways.nd rfl (.inl rfl))
       (pss_cons
       (ps_set (i := 2) sc_l_ways.nd rfl (.inl rfl) (pe_f G_l_ways hr (by omega) (g_l_ways U) (F_l_ways U).kp (b_l_ways U) (pa_cons (pv 5) (pa_cons (pv 1) pa_nil))))
       (pss_one
       (ps_set (i := 3) sc_l_ways.nd rfl (.inl rfl) (pe_ifExp (pt_cmpR op_eq (pe_ix (kx_tup K) (pv 0) pe_int (fun _ _ => rfl)) pe_str (nomark _)) (pe_op op_cat (pv 3) (pv 2)) (pe_f G_l_sums hr (by omega) (g_l_sums U) (F_l_sums U).kp (b_l_sums U) (pa_cons (pv 3) (pa_cons (pv 2) pa_nil))))))))
      (pss_one
      (ps_ret (pv 3))))))), ?_⟩
    cases f with
    | kind s =>
      obtain ⟨a, rfl, ha⟩ := at_kind hv
      refine if_word rfl ha (fun _ => ?_) (fun z => absurd rfl z)
      refine ⟨_, rfl, k, rfl, ⟨_, hk⟩, fun D hD => ?_⟩
      refine map_tup (T := T) (e := PyData.str) (as := Ks) hk (dpa_of_strs _) (fun x => some (.int (if x = s then 1 else 0))) (by omega) hD ?_ ?_
      · intro x y H' E N hx e hy _ hE
        have := hy.at_str
        subst this
        refine ⟨rfl, _, rfl, _, rfl, a, _, 1, .str s, rfl, rfl, e.st ha, atI_nat (j := 1) rfl, rfl, .inr ⟨_, rfl, ?_⟩⟩
        rw [show decide (V.str x = V.str s) = decide (x = s) from decide_eq_decide.mpr ⟨V.str.inj, fun z => by rw [z]⟩]
        refine hE _ rfl _ H' (Ex.refl _) rfl ?_
        by_cases z : x = s
        · rw [decide_eq_true z, if_pos rfl, if_pos z]; exact .int _
        · rw [decide_eq_false z, if_neg (by decide), if_neg z]; exact .int _
      · intro ys H1 e1 h1 hy
        rw [fm_some, show (Ks.map fun x => PyData.int (if x = s then 1 else 0)) = (Ks.map fun x => if x = s then (1 : Int) else 0).map .int by rw [List.map_map]; rfl] at hy
        have := dpa_ints hy
        subst this
        refine ⟨D, _, rfl, .inl ⟨.inl (.inl h1), fun t ht => ⟨sz_ok (n := 1) (by decide), fun p hp => ?_⟩⟩⟩
        have e2 := e1.trans (Ex.new ht (o := .tup ((Ks.map fun x => if x = s then (1 : Int) else 0).map V.int)))
        refine q _ p _ [Ks.map fun x => if x = s then (1 : Int) else 0] (Fr.new e2 hp) (e2.trans (Ex.new hp)) upd_same (.cons (.tup (.inl (.inl ((Ex.new (T := T) hp).tup upd_same))) (dpa_of_ints _)) .nil) ⟨List.nodup_cons.mpr ⟨by simp, .nil⟩, fun v => ?_⟩
        rw [List.mem_singleton]
        exact ⟨fun h => ⟨_, way_kind.mpr rfl, h⟩, fun ⟨w, h, e⟩ => by rw [e, way_kind.mp h]⟩
    | many m g =>
      obtain ⟨a, u, rfl, ha, hu⟩ := at_many hv
      have w2 := Wf.many.mp hwf
      rw [names_many] at hnd h5 hro hKs
      refine if_word rfl ha (fun z => absurd z n_mk) (fun _ => if_word rfl ha (fun _ => ?_) (fun z => absurd rfl z))
      refine ⟨_, rfl, a, _, 2, u, rfl, rfl, ha, atI_nat (j := 2) rfl, _, rfl, u, g, k, Ks, r, rfl, hu, hnd, h5, Wf.mono (Nat.div_le_self _ _) w2.2.2, hro, ?_, hk, hK8, hKs, fun H1 rw_ zs V1 f1 e1 h1 hz hT1 => ?_⟩
      · rw [depth_many] at hdep; omega
      have f64 : V1.length < 64 := hT1.few (fun _ h => h) (Wf.mono (Nat.div_le_self _ _) w2.2.2) h5 hro
      refine ⟨_, rfl, _, rfl, a, _, 1, .int (m : Int), rfl, rfl, e1.st ha, atI_nat (j := 1) rfl, (m : Int), 1, rfl, rfl, (m : Int) - 1, rfl, ?_, ?_, ?_⟩
      · have : m ≤ 12 := by
          have := w2.2.1
          have h12 : room g.names.length ≤ 12 := by
            have := room_le (Nat.zero_le g.names.length) h5
            exact this
          omega
        omega
      · have : m ≤ 12 := by
          have := w2.2.1
          have h12 : room g.names.length ≤ 12 := room_le (Nat.zero_le g.names.length) h5
          omega
        omega
      rw [show ((m : Int) - 1).toNat = m - 1 by omega]
      refine for_it walk_range (fun i σ H' => ∃ (fo : Addr) (y4 : Option V) (xs : List V) (V' : List (List Int)), σ = [some (.ref a), some (.ref k), some (.ref rw_), some (.ref fo), y4, none, none] ∧ Fr H fo ∧ Ex T H1 H' ∧ H' fo = some (.lst xs) ∧ DpAll K H' xs (V'.map tupI) ∧ Tells (Many g (i + 1)) Ks V' ∧ V'.length < 64) ?_ (fun _ _ _ _ _ => trivial) ?_ ?_
      · exact ⟨rw_, none, zs, V1, rfl, f1, Ex.refl _, h1, hz, tells_congr hT1 fun w => many_one.symm, f64⟩
      · rintro i x σ H2 H3 hi ⟨fo, y4, xs, V', rfl, ffo, e2, hfo, hxs, hT, hl⟩ ⟨rfl, rfl⟩
        refine ⟨_, rfl, _, rfl, fo, rw_, xs, zs, V', V1, Ks.length, rfl, .inl (.inl hfo), hxs, .inl (.inl (e2.lst h1)), e2.dpa hz, tells_rows hT, tells_rows hT1, hK8, by omega, by omega, fun H4 p us V2 f2 e4 h4 hus nd2 hV2 => ?_⟩
        have hT2 := tells_congr (tells_sum hT hT1 nd2 hV2) fun w => many_succ.symm
        have hwm : Wf r (.many (i + 1 + 1) g) := by
          rw [Wf.many]
          exact ⟨by omega, by omega, Wf.mono (Nat.div_le_div_left (by omega) (by omega)) w2.2.2⟩
        exact ⟨p, _, us, V2, rfl, f2.back (e1.trans e2), e2.trans e4, h4, hus, hT2, hT2.few (fun _ h => many_way h) hwm (by rw [names_many]; exact h5) (by rw [names_many]; exact hro)⟩
      · rintro σ H2 ⟨fo, y4, xs, V', rfl, ffo, e2, hfo, hxs, hT, hl⟩
        refine ⟨_, rfl, q H2 fo xs V' ffo (e1.trans e2) hfo hxs ?_⟩
        rw [show m - 1 + 1 = m by omega] at hT
        exact tells_congr hT fun w => way_many.symm
    | node b ps =>
      obtain ⟨a, c, us, rfl, ha, hc, hu⟩ := at_node hv
      refine if_word rfl ha (fun z => absurd z (n_nk b)) (fun _ => if_word rfl ha (fun z => absurd z (n_nm b)) (fun _ => ?_))
      have hus : us.length = ps.length := by rw [dpa_len hu, List.length_map]
      have w2 := Wf.node.mp hwf
      have hdp : ∀ p ∈ ps, depth p < n := fun p hp => by
        rw [depth_node] at hdep
        have := depth_part hp
        omega
      have hsub : ∀ p ∈ ps, p.names.Sublist (Fm.node b ps).names := fun p hp => names_part hp
      have hp5 : ∀ p ∈ ps, p.names.length ≤ 5 := fun p hp => Nat.le_trans (hsub p hp).length_le h5
      have hpr : ∀ p ∈ ps, r ≤ room p.names.length := fun p hp => Nat.le_trans hro (room_le (hsub p hp).length_le h5)
      have few1 : ∀ {p : Fm Str} {V1 : List (List Int)}, p ∈ ps → Tells (Way p) Ks V1 → V1.length < 64 := fun {p V1} hp hT => hT.few (fun _ h => h) (w2.2 p hp) (hp5 p hp) (hpr p hp)
      obtain ⟨p0, hp0⟩ : ∃ p0, ps[0]? = some p0 := ⟨ps[0]'(by omega), List.getElem?_eq_getElem (by omega)⟩
      obtain ⟨x0, hx0⟩ : ∃ x0, us[0]? = some x0 := ⟨us[0]'(by omega), List.getElem?_eq_getElem (by omega)⟩
      have hpm0 := List.mem_of_getElem? hp0
      refine ⟨_, rfl, a, _, 1, .ref c, rfl, rfl, ha, atI_nat (j := 1) rfl, c, us, 0, x0, rfl, rfl, hc, atI_nat (j := 0) hx0, _, rfl, x0, p0, k, Ks, r, rfl, at_dat hu hp0 hx0, hnd.sublist (hsub p0 hpm0), hp5 p0 hpm0, w2.2 p0 hpm0, hpr p0 hpm0, hdp p0 hpm0, hk, hK8, fun s hs => hKs s ((hsub p0 hpm0).subset hs), fun H1 fo0 zs0 V0 f1 e1 h1 hz0 hT0 => ?_⟩
      have hl0 := few1 hpm0 hT0
      refine ⟨_, rfl, a, _, 1, .ref c, rfl, rfl, e1.st ha, atI_nat (j := 1) rfl, 1, rfl, c, us, rfl, e1.st hc, fun z => ?_, fun _ c2 hc2 => ?_⟩
      · have := z.1
        rw [show HT.sIx us.length 0 (some 1) = min 1 us.length from HT.sIx_nat us.length 0 1] at this
        omega
      rw [show cutV us (some 1) none = us.drop 1 from cut_drop us 1]
      have e2 : Ex T H (upd H1 c2 (.tup (us.drop 1))) := e1.trans (Ex.new hc2)
      have hdl : (us.drop 1).length = ps.length - 1 := by rw [List.length_drop, hus]
      refine ⟨c2, rfl, ⟨_, .inl (.inl upd_same)⟩, ?_⟩
      have hfst0 : Tells (Fst b (ps.take 1)) Ks V0 := by
        have e : ps.take 1 = [p0] := by
          match ps, hp0 with
          | p :: t, hp0 => rw [show p = p0 from Option.some.inj hp0]; rfl
        rw [e]
        refine tells_congr hT0 fun w => ?_
        cases b with
        | true => exact wayAll_one.symm
        | false => exact ⟨fun h => ⟨p0, List.mem_cons_self, h⟩, fun ⟨p, hp, h⟩ => by rw [List.mem_singleton.mp hp] at h; exact h⟩
      refine for_it (walk_tup (xs := us.drop 1)) (fun i σ H' => ∃ (fo : Addr) (y2 y5 : Option V) (xs : List V) (V' : List (List Int)), σ = [some (.ref a), some (.ref k), y2, some (.ref fo), none, y5, none] ∧ Fr H fo ∧ Ex T (upd H1 c2 (.tup (us.drop 1))) H' ∧ H' fo = some (.lst xs) ∧ DpAll K H' xs (V'.map tupI) ∧ Tells (Fst b (ps.take (i + 1))) Ks V' ∧ V'.length < 64) ?_ ?_ ?_ ?_
      · exact ⟨fo0, none, none, zs0, V0, rfl, f1, Ex.refl _, (Ex.new (T := T) hc2).lst h1, (Ex.new (T := T) hc2).dpa hz0, hfst0, hl0⟩
      · rintro i σ H' _ ⟨_, _, _, _, _, _, _, e, _⟩; exact e.st (.inl (.inl upd_same))
      · rintro i x σ H3 H4 hi ⟨fo, y2, y5, xs, V', rfl, ffo, e3, hfo, hxs, hT, hl⟩ ⟨rfl, hx⟩
        rw [hdl] at hi
        obtain ⟨p, hp⟩ : ∃ p, ps[i + 1]? = some p := ⟨ps[i + 1]'(by omega), List.getElem?_eq_getElem (by omega)⟩
        have hpm := List.mem_of_getElem? hp
        rw [List.getElem?_drop, Nat.add_comm] at hx
        have e23 := e2.trans e3
        refine ⟨_, rfl, _, rfl, x, p, k, Ks, r, rfl, e23.dp (at_dat hu hp hx), hnd.sublist (hsub p hpm), hp5 p hpm, w2.2 p hpm, hpr p hpm, hdp p hpm, e23.st hk, hK8, fun s hs => hKs s ((hsub p hpm).subset hs), fun H5 l zs V1 f5 e5 h5' hz hT1 => ?_⟩
        have hl1 := few1 hpm hT1
        have e25 := e23.trans e5
        have hwq : Wf r (.node b (ps.take (i + 1 + 1))) := by
          rw [Wf.node]
          exact ⟨by rw [List.length_take]; omega, fun q hq => w2.2 q (List.mem_of_mem_take hq)⟩
        have hnq := take_names (b := b) (ps := ps) (i + 1 + 1)
        have few : ∀ {V2 : List (List Int)}, Tells (Fst b (ps.take (i + 1 + 1))) Ks V2 → V2.length < 64 := fun t =>
          t.few (fun _ h => fst_way h) hwq (Nat.le_trans hnq.length_le h5) (Nat.le_trans hro (room_le hnq.length_le h5))
        refine test_word rfl (e25.st ha) (if_dec (fun z => ?_) fun z => ?_)
        · rw [w_or] at z; subst z
          refine ⟨_, rfl, _, rfl, fo, l, xs, zs, rfl, rfl, e5.lst hfo, h5', ?_, fun p2 hp2 => ?_⟩
          · rw [dpa_len hxs, dpa_len hz, List.length_map, List.length_map]; exact sz_ok (by omega)
          have hT2 : Tells (Fst false (ps.take (i + 1 + 1))) Ks (V' ++ V1) := by
            refine ⟨?_, fun v => ?_⟩
            · rw [List.nodup_append]
              refine ⟨hT.1, hT1.1, fun u hu v hv e => ?_⟩
              obtain ⟨w1, ⟨p', hp', hw1⟩, rfl⟩ := (hT.2 u).mp hu
              obtain ⟨w2', hw2, rfl⟩ := (hT1.2 v).mp hv
              have hp'm := List.mem_of_mem_take hp'
              have nd2 := hnd
              rw [names_node] at nd2
              have ap : ∀ s ∈ p'.names, s ∉ p.names := fun s h1 h2 => by
                have e6 : ps = ps.take (i + 1) ++ ps.drop (i + 1) := (List.take_append_drop _ _).symm
                rw [e6, List.flatMap_append, List.nodup_append] at nd2
                refine nd2.2.2 s (List.mem_flatMap.mpr ⟨p', hp', h1⟩) s (List.mem_flatMap.mpr ⟨p, ?_, h2⟩) rfl
                exact List.mem_of_getElem? (i := 0) (by rw [List.getElem?_drop]; exact hp)
              exact ways_apart (w2.2 p' hp'm) (hnd.sublist (hsub p' hp'm)) (fun s hs => hKs s ((hsub p' hp'm).subset hs)) ap hw1 hw2 e
            · rw [List.mem_append, hT.2, hT1.2, take_snoc hp]
              constructor
              · rintro (⟨w, h, e⟩ | ⟨w, h, e⟩)
                · exact ⟨w, anyOf_snoc.mpr (.inl h), e⟩
                · exact ⟨w, anyOf_snoc.mpr (.inr h), e⟩
              · rintro ⟨w, h, e⟩
                rcases anyOf_snoc.mp h with h | h
                · exact .inl ⟨w, h, e⟩
                · exact .inr ⟨w, h, e⟩
          refine ⟨p2, _, _, xs ++ zs, V' ++ V1, rfl, Fr.new e25 hp2, (e3.trans e5).trans (Ex.new hp2), upd_same, ?_, hT2, few hT2⟩
          rw [List.map_append]
          exact (Ex.new (T := T) hp2).dpa (dpa_app (e5.dpa hxs) hz)
        · have zb : b = true := by
            cases b
            · exact absurd rfl z
            · rfl
          subst zb
          refine ⟨_, rfl, _, rfl, fo, l, xs, zs, V', V1, Ks.length, rfl, .inl (.inl (e5.lst hfo)), e5.dpa hxs, .inl (.inl h5'), hz, tells_rows hT, tells_rows hT1, hK8, by omega, by omega, fun H6 p2 us2 V2 f6 e6 h6 hus2 nd2 hV2 => ?_⟩
          have hT2 : Tells (Fst true (ps.take (i + 1 + 1))) Ks V2 := by
            rw [take_snoc hp]
            exact tells_congr (tells_sum hT hT1 nd2 hV2) fun w => wayAll_snoc.symm
          exact ⟨p2, _, _, us2, V2, rfl, f6.back e25, (e3.trans e5).trans e6, h6, hus2, hT2, few hT2⟩
      · rintro σ H3 ⟨fo, y2, y5, xs, V', rfl, ffo, e3, hfo, hxs, hT, hl⟩
        refine ⟨_, rfl, q H3 fo xs V' ffo (e2.trans e3) hfo hxs ?_⟩
        rw [hdl, show ps.length - 1 + 1 = ps.length by omega, List.take_length] at hT
        exact tells_congr hT fun w => fst_iff
end
end K23
/-! V6: _law_taken, _law_number, _law_with. -/
namespace K23
open PySem PySem.Spec PyProof.Rows L2
theorem range_cons (n : Nat) : List.range (n + 1) = 0 :: (List.range n).map (· + 1) := List.range_succ_eq_map
theorem quots_rng : ∀ (w r : List Int), w.length = r.length → (List.range w.length).filterMap (fun i => if decide (0 < w.getD i 0) then some (PyData.int (r.getD i 0 / w.getD i 0)) else none) = (quots w r).map .int
  | [], [], _ => rfl
  | [], _ :: _, h => by simp at h
  | _ :: _, [], h => by simp at h
  | x :: w, y :: r, h => by
    have i := quots_rng w r (by simpa using h)
    rw [List.length_cons, range_cons, List.filterMap_cons, List.filterMap_map, quots]
    have e : ((fun i => if decide (0 < (x :: w).getD i 0) then some (PyData.int ((y :: r).getD i 0 / (x :: w).getD i 0)) else none) ∘ (· + 1)) = fun i => if decide (0 < w.getD i 0) then some (PyData.int (r.getD i 0 / w.getD i 0)) else none := by
      funext j; rfl
    rw [e, i]
    rw [show (x :: w).getD 0 0 = x from rfl, show (y :: r).getD 0 0 = y from rfl]
    by_cases h0 : 0 < x
    · rw [if_pos (decide_eq_true h0), if_pos h0]; rfl
    · rw [if_neg (by rw [decide_eq_false h0]; decide), if_neg h0]
theorem less_rng (here : Int) : ∀ (w r : List Int), w.length = r.length → (List.range w.length).map (fun i => r.getD i 0 - here * w.getD i 0) = less here w r
  | [], [], _ => rfl
  | [], _ :: _, h => by simp at h
  | _ :: _, [], h => by simp at h
  | x :: w, y :: r, h => by
    have i := less_rng here w r (by simpa using h)
    rw [List.length_cons, range_cons, List.map_cons, List.map_map, less, ← i]
    rfl
theorem less_len (here : Int) : ∀ (w r : List Int), w.length = r.length → (less here w r).length = r.length
  | [], [], _ => rfl
  | [], _ :: _, h => by simp at h
  | _ :: _, [], h => by simp at h
  | x :: w, y :: r, h => by rw [less, List.length_cons, List.length_cons, less_len here w r (by simpa using h)]
theorem int_at {ns : List Int} {i : Nat} (h : i < ns.length) : atI (ns.map V.int) (i : Int) = some (.int (ns.getD i 0)) :=
  atI_nat (by rw [List.getElem?_map, List.getElem?_eq_getElem h, List.getD_eq_getElem?_getD, List.getElem?_eq_getElem h]; rfl)
/-- rows of small numbers -/
def Small (V : List (List Int)) : Prop := ∀ v ∈ V, ∀ x ∈ v, 0 ≤ x ∧ x ≤ 1000
section
variable {T : Tl} {P : Program} {w : World} {K : PySem.W.Frag} {mg : Str → Option Value} {base : Heap} {A : Nat → Addr} {D : Nat → FuncData}
def spTaken (T : Tl) (K : PySem.W.Frag) : Sp := fun vs H Q _ => ∃ (wa pa : Addr) (xs : List V) (V' : List (List Int)) (ps : List Int) (most : Int), vs = [.ref wa, .ref pa, .int most] ∧ SqL K H wa xs ∧ DpAll K H xs (V'.map tupI) ∧ SqT K H pa (ps.map V.int) ∧ Rows ps.length V' ∧ Small V' ∧ ps.length ≤ 8 ∧ V'.length ≤ 1000 ∧
  ∀ H' p ra, Ex T H H' → H' p = some (.tup [.int (taken most V' ps 0).1, .ref ra]) → Q (.ref p) H'
theorem ok_taken (U : Txt K mg A D) : FnOk P w K mg base CX0 1 (A 48) (D 48) ["_law_ways_here", "_law_pool", "_law_most"] (spTaken T K) := by
  refine (F_l_taken U).ok sc_l_taken (fun vs H Q E h => by obtain ⟨_, _, _, _, _, _, rfl, _⟩ := h; rfl) (fun cdv A' outer s H vs Q E hr h => ?_)
  obtain ⟨wa, pa, xs, V', ps, most, rfl, hw, hxs, hp, hR, hS, hn, hVl, q⟩ := h
  refine ⟨_, PSs.nox (pss_cons
      (ps_asg (pe_tup (pa_cons (pe_callTy (kc_list K) (by rfl) (z_list U) boot_list (pa_cons (pv 1) pa_nil)) (pa_cons pe_int pa_nil))) (kg_tup K (n := 2) (pgs_cons (pg_name (i := 3) sc_l_taken.nd rfl (.inr rfl)) (pgs_cons (pg_name (i := 4) sc_l_taken.nd rfl (.inl rfl)) pgs_nil))))
      (pss_cons
      (ps_for PassesOwn.never rfl (ki_list K (pv 0)) (pg_name (i := 5) sc_l_taken.nd rfl (.inr rfl))
       (pss_cons
       (ps_set (i := 6) sc_l_taken.nd rfl (.inr rfl) (pe_callB (kc_min K) (by rfl) (z_min U) boot_min (pa_cons (pe_op op_cat (pe_lst (pa_cons (pe_op op_sub (pv 2) (pv 4)) pa_nil)) (pe_lc (g := gName 7) rfl sc_l_taken.nd (pi_range1 (by rfl) (z_range U) (pa_cons (pe_callB (kc_len K) (by rfl) (z_len U) boot_len (pa_cons (pv 5) pa_nil)) pa_nil)) (blkOk_by (N := N_l_taken) (own := [("_law_at", 7)]) (by kernel_rfl)) (fun _ _ _ _ _ => (pg_name (i := 7) sc_l_taken.nd rfl (.inl rfl))) (fun _ _ _ _ _ => (pts_one (pt_cmpR op_gt (pe_ix (kx_tup K) (pv 5) (pv 7) (fun _ _ => rfl)) pe_int (nomark _)))) (fun _ _ _ _ _ => (pe_op op_fdiv (pe_ix (kx_list K) (pv 3) (pv 7) (fun _ _ => rfl)) (pe_ix (kx_tup K) (pv 5) (pv 7) (fun _ _ => rfl)))))) pa_nil)))
       (pss_cons
       (ps_set (i := 3) sc_l_taken.nd rfl (.inr rfl) (pe_lc (g := gName 7) (tt := tYes) rfl sc_l_taken.nd (pi_range1 (by rfl) (z_range U) (pa_cons (pe_callB (kc_len K) (by rfl) (z_len U) boot_len (pa_cons (pv 5) pa_nil)) pa_nil)) (blkOk_by (N := N_l_taken) (own := [("_law_at", 7)]) (by kernel_rfl)) (fun _ _ _ _ _ => (pg_name (i := 7) sc_l_taken.nd rfl (.inl rfl))) (fun _ _ _ _ _ => pts_nil) (fun _ _ _ _ _ => (pe_op op_sub (pe_ix (kx_list K) (pv 3) (pv 7) (fun _ _ => rfl)) (pe_op op_mul (pv 6) (pe_ix (kx_tup K) (pv 5) (pv 7) (fun _ _ => rfl)))))))
       (pss_one
       (ps_aug (i := 4) sc_l_taken.nd rfl (.inl rfl) (pv 6) ip_add)))))
      (pss_one
      (ps_ret (pe_tup (pa_cons (pv 4) (pa_cons (pe_callTy (kc_tuple K) (by rfl) (z_tuple U) boot_tuple (pa_cons (pv 3) pa_nil)) pa_nil))))))), ?_⟩
  have hxl : xs.length = V'.length := by rw [dpa_len hxs, List.length_map]
  refine ⟨_, rfl, pa, _, rfl, .inr hp, fun l hl => ⟨sz_ok (n := 2) (by decide), fun tp htp => ?_⟩⟩
  have e1 : Ex T H (upd (upd H l (.lst (ps.map V.int))) tp (.tup [.ref l, .int 0])) := (Ex.new hl).trans (Ex.new htp)
  refine ⟨tp, _, rfl, .inl (.inl upd_same), rfl, _, _, rfl, _, _, rfl, rfl, ?_⟩
  refine ⟨_, rfl, wa, rfl, ⟨xs, e1.sl hw⟩, ?_⟩
  refine for_it (walk_list (xs := xs)) (fun i σ H' => ∃ (y5 y6 : Option V) (ra : Addr) (rest : List Int) (many : Int), σ = [some (.ref wa), some (.ref pa), some (.int most), some (.ref ra), some (.int many), y5, y6, none] ∧ Ex T H H' ∧ H' ra = some (.lst (rest.map V.int)) ∧ rest.length = ps.length ∧
    taken most (V'.drop i) rest many = taken most V' ps 0) ?_ ?_ ?_ ?_
  · exact ⟨none, none, l, ps, 0, rfl, e1, by rw [upd_ne (ne_of_none upd_same htp)]; exact upd_same, rfl, rfl⟩
  · rintro i σ H' _ ⟨_, _, _, _, _, _, e, _⟩; exact e.sl hw
  · rintro i x σ H2 H3 hi ⟨y5, y6, ra, rest, many, rfl, e2, hra, hrl, htk⟩ ⟨rfl, hx⟩
    obtain ⟨v, hv⟩ : ∃ v, V'[i]? = some v := ⟨V'[i]'(by omega), List.getElem?_eq_getElem (by omega)⟩
    have hvm := List.mem_of_getElem? hv
    obtain ⟨la, rfl, hla⟩ := (at_dat hxs hv hx).tup_ints
    have hvl := hR v hvm
    have hdrop : V'.drop i = v :: V'.drop (i + 1) := by
      rw [← List.getElem_cons_drop (by omega : i < V'.length)]
      rw [List.getElem?_eq_getElem (by omega)] at hv
      rw [Option.some.inj hv]
    rw [hdrop, taken] at htk
    -- here
    refine ⟨_, rfl, _, rfl, _, _, rfl, rfl, sz_ok (n := 1) (by decide), fun p1 hp1 => ?_⟩
    have e3 := Ex.new (T := T) hp1 (o := .lst [.int (most - many)])
    refine ⟨_, rfl, la, _, rfl, .inr ((e2.trans e3).st hla), _, rfl, by rw [List.length_map]; omega, by rw [List.length_map]; omega, fun D hD => ?_⟩
    rw [show ((v.map V.int).length : Int).toNat = v.length by rw [List.length_map, Int.toNat_natCast]]
    refine map_rng (T := T) (K := K) (fun i => if decide (0 < v.getD i 0) then some (.int (rest.getD i 0 / v.getD i 0)) else none) (by omega) hD ?_ ?_
    · rintro i0 x0 H6 E N hi0 e6 rfl g1 g2
      refine ⟨rfl, _, rfl, _, rfl, la, _, (i0 : Int), _, rfl, rfl, e6.st ((e2.trans e3).st hla), int_at hi0, _, 0, rfl, rfl, _, rfl, if_dec (fun z => ?_) fun z => ?_⟩
      · have hb := (hS v hvm (v.getD i0 0) (by rw [List.getD_eq_getElem?_getD, List.getElem?_eq_getElem hi0]; exact List.getElem_mem _)).2
        exact ⟨_, rfl, _, rfl, ra, _, (i0 : Int), _, rfl, rfl, .inl (.inl (e6.lst (e3.lst hra))), int_at (by omega), _, rfl, _, rfl, la, _, (i0 : Int), _, rfl, rfl, e6.st ((e2.trans e3).st hla), int_at hi0, _, _, rfl, rfl, ⟨z, by omega⟩, g2 _ (if_pos (decide_eq_true z)) _ H6 (Ex.refl _) rfl (.int _)⟩
      · exact g1 (if_neg (by rw [decide_eq_false z]; decide)) H6 (Ex.refl _)
    · intro ys H4 e4 h4 hy
      rw [quots_rng v rest (by omega)] at hy
      have := dpa_ints hy
      subst this
      have hql : (quots v rest).length ≤ 8 := by
        have h1 := dpa_len hy
        have h2 : ((List.range v.length).filterMap (fun i => if decide (0 < v.getD i 0) then some (PyData.int (rest.getD i 0 / v.getD i 0)) else none)).length ≤ v.length := Nat.le_trans (List.length_filterMap_le _ _) (Nat.le_of_eq List.length_range)
        rw [quots_rng v rest (by omega), List.length_map] at h2
        omega
      refine ⟨p1, D, _, _, rfl, rfl, e4.lst upd_same, h4, by rw [List.length_map]; simp only [List.length_singleton]; exact sz_ok (by omega), fun p2 hp2 => ?_⟩
      refine ⟨p2, (most - many) :: quots v rest, rfl, .inl (.inl upd_same), Nat.succ_pos _, fun here hm hle => ?_⟩
      have hh : here = lmin ((most - many) :: quots v rest) := lmin_unique hm hle
      rw [← hh] at htk
      have e5 := (e3.trans e4).trans (Ex.new hp2 (o := .lst ([.int (most - many)] ++ (quots v rest).map V.int)))
      have e25 := e2.trans e5
      -- rest
      refine ⟨_, rfl, la, _, rfl, .inr (e25.st hla), _, rfl, by rw [List.length_map]; omega, by rw [List.length_map]; omega, fun D2 hD2 => ?_⟩
      rw [show ((v.map V.int).length : Int).toNat = v.length by rw [List.length_map, Int.toNat_natCast]]
      refine map_rng (T := T) (K := K) (fun i => some (.int (rest.getD i 0 - here * v.getD i 0))) (by omega) hD2 ?_ ?_
      · rintro i0 x0 H6 E N hi0 e6 rfl _ g2
        have hb := hS v hvm (v.getD i0 0) (by rw [List.getD_eq_getElem?_getD, List.getElem?_eq_getElem hi0]; exact List.getElem_mem _)
        exact ⟨rfl, _, rfl, _, rfl, ra, _, (i0 : Int), _, rfl, rfl, .inl (.inl (e6.lst (e5.lst hra))), int_at (by omega), _, rfl, _, rfl, _, rfl, la, _, (i0 : Int), _, rfl, rfl, e6.st (e25.st hla), int_at hi0, _, _, rfl, rfl, .inr ⟨by omega, by omega⟩, _, _, rfl, rfl, g2 _ rfl _ H6 (Ex.refl _) rfl (.int _)⟩
      · intro ys H7 e7 h7 hy
        rw [fm_some, show ((List.range v.length).map fun i => PyData.int (rest.getD i 0 - here * v.getD i 0)) = ((List.range v.length).map fun i => rest.getD i 0 - here * v.getD i 0).map .int by rw [List.map_map]; rfl, less_rng here v rest (by omega)] at hy
        have := dpa_ints hy
        subst this
        refine ⟨_, rfl, _, rfl, many, here, rfl, rfl, ?_⟩
        exact ⟨_, _, D2, less here v rest, many + here, rfl, e25.trans e7, h7, by rw [less_len here v rest (by omega)]; exact hrl, htk⟩
  · rintro σ H2 ⟨y5, y6, ra, rest, many, rfl, e2, hra, hrl, htk⟩
    rw [hxl, List.drop_length, taken] at htk
    refine ⟨_, rfl, _, rfl, ra, _, rfl, .inl ⟨.inl (.inl hra), fun t ht => ⟨sz_ok (n := 2) (by decide), fun p hp => ?_⟩⟩⟩
    refine q _ p t ((e2.trans (Ex.new ht)).trans (Ex.new hp)) ?_
    rw [upd_same, ← htk]
/-- what the run over all ways gives -/
def numV (V : List (List Int)) (ps : List Int) : Int := (taken (10 ^ 30) V ps 0).1
def spNumV (T : Tl) (K : PySem.W.Frag) : Sp := fun vs H Q _ => ∃ (wa pa : Addr) (xs : List V) (V' : List (List Int)) (ps : List Int), vs = [.ref wa, .ref pa] ∧ SqL K H wa xs ∧ DpAll K H xs (V'.map tupI) ∧ SqT K H pa (ps.map V.int) ∧ Rows ps.length V' ∧ Small V' ∧ ps.length ≤ 8 ∧ V'.length ≤ 1000 ∧
  ∀ H', Ex T H H' → Q (.int (numV V' ps)) H'
theorem ok_number (U : Txt K mg A D) : FnOk P w K mg base CX0 2 (A 51) (D 51) ["_law_ways_here", "_law_pool"] (spNumV T K) := by
  have G_l_taken : FnOk P w K mg base CX0 1 (A 48) (D 48) ["_law_ways_here", "_law_pool", "_law_most"] (spTaken T K) := ok_taken U
  refine (F_l_number U).ok sc_l_number (fun vs H Q E h => by obtain ⟨_, _, _, _, _, rfl, _⟩ := h; rfl) (fun cdv A' outer s H vs Q E hr h => ?_)
  obtain ⟨wa, pa, xs, V', ps, rfl, hw, hxs, hp, hR, hS, hn, hVl, q⟩ := h
  refine ⟨_, PSs.nox (pss_one
      (ps_ret (pe_ix (kx_tup K) (pe_f G_l_taken hr (by omega) (g_l_taken U) (F_l_taken U).kp (b_l_taken U) (pa_cons (pv 0) (pa_cons (pv 1) (pa_cons (pe_op op_pow pe_int pe_int) pa_nil)))) pe_int (fun _ _ => rfl)))), ?_⟩
  refine ⟨_, rfl, _, rfl, 10, 30, rfl, rfl, ⟨by decide, by decide, by decide⟩, wa, pa, xs, V', ps, _, rfl, hw, hxs, hp, hR, hS, hn, hVl, fun H' p ra e h => ⟨p, _, 0, _, rfl, rfl, .inl (.inl h), atI_nat (j := 0) rfl, q H' e⟩⟩
/-! ### _law_with -/
def spWith (T : Tl) (K : PySem.W.Frag) : Sp := fun vs H Q _ => ∃ (pa : Addr) (ps : List Int) (i : Nat) (x : Int), vs = [.ref pa, .int (i : Int), .int x] ∧ SqT K H pa (ps.map V.int) ∧ i < ps.length ∧ ps.length ≤ 8 ∧
  ∀ H' p, Ex T H H' → SqT K H' p ((ps.set i x).map V.int) → Q (.ref p) H'
theorem cat_sq {H : Hp} {a b : Addr} {xs ys : List V} {Q : VK} (ha : SqT K H a xs) (hb : SqT K H b ys) (hl : xs.length + ys.length ≤ 1000) (k : ∀ H' p, Ex T H H' → SqT K H' p (xs ++ ys) → Q (.ref p) H') : rCatA K (.ref a) (.ref b) H Q :=
  ⟨a, b, xs, ys, rfl, rfl, ha, hb, sz_ok (by omega), fun z => k H b (Ex.refl H) (by rw [z]; exact hb), fun _ z => k H a (Ex.refl H) (by rw [z, List.append_nil]; exact ha), fun _ _ p hp => k _ p (Ex.new hp) (.inl (.inl upd_same))⟩
theorem take_sq {H : Hp} {a : Addr} {xs : List V} {Q : VK} {k : Nat} (ha : SqT K H a xs) (kk : ∀ H' p, Ex T H H' → SqT K H' p (xs.take k) → Q (.ref p) H') : rSlA K (.ref a) none (some (k : Int)) H Q :=
  ⟨a, xs, rfl, ha, fun z => kk H a (Ex.refl H) (by
    have h2 := z.2
    rw [HT.sIx_nat] at h2
    rw [List.take_of_length_le (by omega)]; exact ha), fun _ p hp => kk _ p (Ex.new hp) (.inl (.inl (by rw [upd_same, cut_take])))⟩
theorem drop_sq {H : Hp} {a : Addr} {xs : List V} {Q : VK} {k : Nat} (ha : SqT K H a xs) (kk : ∀ H' p, Ex T H H' → SqT K H' p (xs.drop k) → Q (.ref p) H') : rSlA K (.ref a) (some (k : Int)) none H Q :=
  ⟨a, xs, rfl, ha, fun z => kk H a (Ex.refl H) (by
    have h2 := z.1
    rw [HT.sIx_nat] at h2
    rcases Nat.eq_zero_or_pos k with e | e
    · rw [e]; exact ha
    · have : xs.length = 0 := by omega
      rw [List.length_eq_zero_iff.mp this] at ha ⊢
      rw [List.drop_nil]; exact ha), fun _ p hp => kk _ p (Ex.new hp) (.inl (.inl (by rw [upd_same, cut_drop])))⟩
theorem drop_sq' {H : Hp} {a : Addr} {xs : List V} {Q : VK} {k : Nat} {z : Int} (hz : z = (k : Int)) (ha : SqT K H a xs) (kk : ∀ H' p, Ex T H H' → SqT K H' p (xs.drop k) → Q (.ref p) H') : rSlA K (.ref a) (some z) none H Q := by
  subst hz; exact drop_sq ha kk
theorem ok_with (U : Txt K mg A D) : FnOk P w K mg base CX0 1 (A 52) (D 52) ["_law_pool", "_law_at", "_law_amount_here"] (spWith T K) := by
  refine (F_l_with U).ok sc_l_with (fun vs H Q E h => by obtain ⟨_, _, _, _, rfl, _⟩ := h; rfl) (fun cdv A' outer s H vs Q E hr h => ?_)
  obtain ⟨pa, ps, i, x, rfl, hp, hi, hn, q⟩ := h
  refine ⟨_, PSs.nox (pss_one
      (ps_ret (pe_op (ko_cat K) (pe_op (ko_cat K) (pe_slice (ks_tup K) (pv 0) po_none (po_some (pv 1))) (pe_tup (pa_cons (pv 2) pa_nil))) (pe_slice (ks_tup K) (pv 0) (po_some (pe_op op_add (pv 1) pe_int)) po_none)))), ?_⟩
  refine ⟨_, rfl, _, rfl, _, rfl, take_sq (T := T) hp fun H1 p1 e1 h1 => ?_⟩
  refine ⟨_, rfl, sz_ok (n := 1) (by decide), fun p2 hp2 => ?_⟩
  have e2 := Ex.new (T := T) hp2 (o := .tup [.int x])
  refine cat_sq (T := T) (xs := (ps.map V.int).take i) (ys := [.int x]) (e2.st h1) (.inl (.inl upd_same)) (by rw [List.length_take, List.length_map]; simp only [List.length_singleton]; omega) fun H3 p3 e3 h3 => ?_
  have e13 := (e1.trans e2).trans e3
  refine ⟨_, rfl, _, rfl, (i : Int), 1, rfl, rfl, (i : Int) + 1, rfl, ?_⟩
  refine drop_sq' (T := T) (Q := fun y H2 => rCatA K (.ref p3) y H2 Q) (k := i + 1) (z := (i : Int) + 1) (by omega) (e13.st hp) fun H4 p4 e4 h4 => ?_
  refine cat_sq (T := T) (e4.st h3) h4 (by rw [List.length_append, List.length_take, List.length_drop, List.length_map]; simp only [List.length_singleton]; omega) fun H5 p5 e5 h5 => ?_
  refine q H5 p5 ((e13.trans e4).trans e5) ?_
  rw [← List.map_take, ← List.map_drop, show [V.int x] = [x].map V.int from rfl, ← List.map_append, ← List.map_append] at h5
  rw [show ps.set i x = ps.take i ++ [x] ++ ps.drop (i + 1) by rw [List.set_eq_take_append_cons_drop, if_pos hi, List.append_assoc]; rfl]
  exact h5
end
end K23
/-! V7: _law_lots, _law_cut, _law_is_least. -/
namespace K23
open PySem PySem.Spec PyProof.Rows L2
section
variable {T : Tl} {P : Program} {w : World} {K : PySem.W.Frag} {mg : Str → Option Value} {base : Heap} {A : Nat → Addr} {D : Nat → FuncData}
/-! ### _law_lots -/
def spLots (T : Tl) (K : PySem.W.Frag) : Sp := fun vs H Q _ => ∃ (k : Addr) (Ks : List Str), vs = [.ref k] ∧ SqT K H k (Ks.map V.str) ∧ Ks.length ≤ 5 ∧
  ∀ H' p (zs : List V) (Ls : List (List Str)), Fr H p → Ex T H H' → H' p = some (.lst zs) → DpAll K H' zs (Ls.map tupS) → (∀ L ∈ Ls, L.Sublist Ks) → 0 < Ls.length → Ls.length ≤ 32 → Q (.ref p) H'
theorem ok_lots (U : Txt K mg A D) : FnOk P w K mg base CX0 1 (A 53) (D 53) ["_law_kinds"] (spLots T K) := by
  refine (F_l_lots U).ok sc_l_lots (fun vs H Q E h => by obtain ⟨_, _, rfl, _⟩ := h; rfl) (fun cdv A' outer s H vs Q E hr h => ?_)
  obtain ⟨k, Ks, rfl, hk, hl, q⟩ := h
  refine ⟨_, PSs.nox (pss_cons
      (ps_set (i := 1) sc_l_lots.nd rfl (.inl rfl) (pe_lst (pa_cons (pe_tup pa_nil) pa_nil)))
      (pss_cons
      (ps_for PassesOwn.never rfl (ki_tup K (pv 0)) (pg_name (i := 2) sc_l_lots.nd rfl (.inr rfl))
       (pss_one
       (ps_set (i := 1) sc_l_lots.nd rfl (.inl rfl) (pe_op op_cat (pv 1) (pe_lc (g := gName 3) (tt := tYes) rfl sc_l_lots.nd (ki_list K (pv 1)) (blkOk_by (N := N_l_lots) (own := [("_law_lot", 3)]) (by kernel_rfl)) (fun _ _ _ _ _ => (pg_name (i := 3) sc_l_lots.nd rfl (.inl rfl))) (fun _ _ _ _ _ => pts_nil) (fun _ _ _ _ _ => (pe_op (ko_cat K) (pv 3) (pe_tup (pa_cons (pv 2) pa_nil)))))))))
      (pss_one
      (ps_ret (pv 1))))), ?_⟩
  refine ⟨sz_ok (n := 0) (by decide), fun t0 ht0 => ⟨sz_ok (n := 1) (by decide), fun p0 hp0 => ?_⟩⟩
  have e1 : Ex T H (upd (upd H t0 (.tup [])) p0 (.lst [.ref t0])) := (Ex.new ht0).trans (Ex.new hp0)
  have hkl : (Ks.map V.str).length = Ks.length := List.length_map ..
  refine ⟨_, rfl, k, rfl, ⟨_, e1.st hk⟩, ?_⟩
  refine for_it (walk_tup (xs := Ks.map V.str)) (fun i σ H' => ∃ (y2 : Option V) (fo : Addr) (zs : List V) (Ls : List (List Str)), σ = [some (.ref k), some (.ref fo), y2, none] ∧ Fr H fo ∧ Ex T H H' ∧ H' fo = some (.lst zs) ∧ DpAll K H' zs (Ls.map tupS) ∧ (∀ L ∈ Ls, L.Sublist (Ks.take i)) ∧ Ls.length = 2 ^ i) ?_ ?_ ?_ ?_
  · refine ⟨none, p0, [.ref t0], [[]], rfl, Fr.new (Ex.new (T := T) ht0) hp0, e1, upd_same, .cons (.tup (.inl (.inl ((Ex.new (T := T) hp0).tup upd_same))) .nil) .nil, fun L hL => ?_, rfl⟩
    rw [List.mem_singleton.mp hL]; exact List.nil_sublist _
  · rintro i σ H' _ ⟨_, _, _, _, _, _, e, _⟩; exact e.st hk
  · rintro i x σ H2 H3 hi ⟨y2, fo, zs, Ls, rfl, ffo, e2, hfo, hz, hL, hn⟩ ⟨rfl, hx⟩
    rw [hkl] at hi
    obtain ⟨s, hs⟩ : ∃ s, Ks[i]? = some s := ⟨_, List.getElem?_eq_getElem hi⟩
    rw [List.getElem?_map, hs] at hx
    cases hx
    have h32 : 2 ^ i ≤ 16 := Nat.le_trans (Nat.pow_le_pow_right (by decide) (show i ≤ 4 by omega)) (by decide)
    refine ⟨_, rfl, _, rfl, fo, rfl, ⟨zs, .inl (.inl hfo)⟩, fun D hD => ?_⟩
    refine map_lst (T := T) (.inl (.inl hfo)) hz (fun L => some (tupS (L ++ [s]))) (by omega) hD ?_ ?_
    · intro L y H' E N hLm e hy _ hE
      obtain ⟨la, rfl, hla⟩ := Dp.tup_strs hy
      refine ⟨rfl, _, rfl, _, rfl, sz_ok (n := 1) (by decide), fun p1 hp1 => ?_⟩
      have e3 := Ex.new (T := T) hp1 (o := .tup [.str s])
      have hll : L.length ≤ i := by
        have := (hL L hLm).length_le
        rw [List.length_take] at this; omega
      refine cat_sq (T := T) (Q := E) (e3.st hla) (.inl (.inl upd_same)) (by rw [List.length_map]; simp only [List.length_singleton]; omega) fun H5 p5 e5 h5 => hE _ rfl _ H5 (e3.trans e5) (flat_tupS _) ?_
      unfold tupS
      rw [show L.map V.str ++ [V.str s] = (L ++ [s]).map V.str by rw [List.map_append]; rfl] at h5
      exact .tup h5 (dpa_of_strs _)
    · intro ys H4 e4 h4 hy
      rw [fm_some] at hy
      refine ⟨fo, D, zs, ys, rfl, rfl, e4.lst hfo, h4, ?_, fun p2 hp2 => ?_⟩
      · rw [dpa_len hz, dpa_len hy, List.length_map, List.length_map]; exact sz_ok (by omega)
      have e5 := (e2.trans e4).trans (Ex.new hp2 (o := .lst (zs ++ ys)))
      refine ⟨_, p2, zs ++ ys, Ls ++ Ls.map (· ++ [s]), rfl, Fr.new (e2.trans e4) hp2, e5, upd_same, ?_, fun L hL' => ?_, ?_⟩
      · rw [List.map_append, List.map_map]
        exact (Ex.new (T := T) hp2).dpa (dpa_app (e4.dpa hz) hy)
      · rw [take_snoc hs]
        rcases List.mem_append.mp hL' with h | h
        · exact (hL L h).trans (List.sublist_append_left _ _)
        · obtain ⟨L', h', rfl⟩ := List.mem_map.mp h
          exact (hL L' h').append (List.Sublist.refl _)
      · rw [List.length_append, List.length_map, hn, Nat.pow_succ]; omega
  · rintro σ H2 ⟨y2, fo, zs, Ls, rfl, ffo, e2, hfo, hz, hL, hn⟩
    rw [hkl, List.take_length] at hL
    rw [hkl] at hn
    have h32 : 2 ^ Ks.length ≤ 32 := Nat.le_trans (Nat.pow_le_pow_right (by decide) hl) (by decide)
    exact ⟨_, rfl, q H2 fo zs Ls ffo e2 hfo hz hL (by rw [hn]; exact Nat.pow_pos (by decide)) (by omega)⟩
/-! ### _law_cut -/
/-- what is left of a row -/
def cutR (Ks L : List Str) (ρ : Str → Int) : List Int := (Ks.filter fun s => decide (s ∉ L)).map ρ
theorem cut_rng (L : List Str) (ρ : Str → Int) : ∀ Ks : List Str, (List.range Ks.length).filterMap (fun i => if decide (Ks.getD i Str.empty ∉ L) then some (PyData.int ((Ks.map ρ).getD i 0)) else none) = (cutR Ks L ρ).map .int
  | [] => rfl
  | k :: r => by
    have i := cut_rng L ρ r
    rw [List.length_cons, range_cons, List.filterMap_cons, List.filterMap_map]
    have e : ((fun i => if decide ((k :: r).getD i Str.empty ∉ L) then some (PyData.int (((k :: r).map ρ).getD i 0)) else none) ∘ (· + 1)) = fun i => if decide (r.getD i Str.empty ∉ L) then some (PyData.int ((r.map ρ).getD i 0)) else none := by
      funext j; rfl
    rw [e, i]
    unfold cutR
    rw [List.filter_cons, show (k :: r).getD 0 Str.empty = k from rfl, show ((k :: r).map ρ).getD 0 0 = ρ k from rfl]
    by_cases h0 : k ∉ L
    · rw [if_pos (decide_eq_true h0), if_pos (decide_eq_true h0)]; rfl
    · rw [if_neg (by rw [decide_eq_false h0]; decide), if_neg (by rw [decide_eq_false h0]; decide)]
theorem str_atI {ns : List Str} {i : Nat} (h : i < ns.length) : atI (ns.map V.str) (i : Int) = some (.str (ns.getD i Str.empty)) :=
  atI_nat (by rw [List.getElem?_map, List.getElem?_eq_getElem h, List.getD_eq_getElem?_getD, List.getElem?_eq_getElem h]; rfl)
def spLCut (T : Tl) (K : PySem.W.Frag) : Sp := fun vs H Q _ => ∃ (ra k l : Addr) (Ks L : List Str) (ρ : Str → Int), vs = [.ref ra, .ref k, .ref l] ∧ SqT K H ra ((Ks.map ρ).map V.int) ∧ SqT K H k (Ks.map V.str) ∧ SqT K H l (L.map V.str) ∧ Ks.length ≤ 8 ∧
  ∀ H' p, Fr H p → Ex T H H' → H' p = some (.tup ((cutR Ks L ρ).map V.int)) → Q (.ref p) H'
theorem ok_lcut (U : Txt K mg A D) : FnOk P w K mg base CX0 1 (A 56) (D 56) ["_law_row", "_law_kinds", "_law_lot"] (spLCut T K) := by
  refine (F_l_cut U).ok sc_l_cut (fun vs H Q E h => by obtain ⟨_, _, _, _, _, _, rfl, _⟩ := h; rfl) (fun cdv A' outer s H vs Q E hr h => ?_)
  obtain ⟨ra, k, l, Ks, L, ρ, rfl, hra, hk, hl, hn, q⟩ := h
  refine ⟨_, PSs.nox (pss_one
      (ps_ret (pe_callTy (kc_tuple K) (by rfl) (z_tuple U) boot_tuple (pa_cons (pe_lc (g := gName 3) rfl sc_l_cut.nd (pi_range1 (by rfl) (z_range U) (pa_cons (pe_callB (kc_len K) (by rfl) (z_len U) boot_len (pa_cons (pv 1) pa_nil)) pa_nil)) (blkOk_by (N := N_l_cut) (own := [("_law_at", 3)]) (by kernel_rfl)) (fun _ _ _ _ _ => (pg_name (i := 3) sc_l_cut.nd rfl (.inl rfl))) (fun _ _ _ _ _ => (pts_one (pt_cmpR (ko_notIn K) (pe_ix (kx_tup K) (pv 1) (pv 3) (fun _ _ => rfl)) (pv 2) rfl))) (fun _ _ _ _ _ => (pe_ix (kx_tup K) (pv 0) (pv 3) (fun _ _ => rfl)))) pa_nil)))), ?_⟩
  refine ⟨_, rfl, k, _, rfl, .inr hk, _, rfl, by rw [List.length_map]; omega, by rw [List.length_map]; omega, fun D hD => ?_⟩
  rw [show ((Ks.map V.str).length : Int).toNat = Ks.length by rw [List.length_map, Int.toNat_natCast]]
  refine map_rng (T := T) (K := K) (fun i => if decide (Ks.getD i Str.empty ∉ L) then some (.int ((Ks.map ρ).getD i 0)) else none) (by omega) hD ?_ ?_
  · rintro i0 x0 H6 E N hi0 e6 rfl g1 g2
    refine ⟨rfl, _, rfl, _, rfl, k, _, (i0 : Int), _, rfl, rfl, e6.st hk, str_atI hi0, _, rfl, l, _, rfl, .inr (e6.st hl), rfl, flat_strs _, _, rfl, ?_⟩
    rw [in_strs, if_pos rfl, ← decide_not]
    refine if_dec (fun z => ?_) fun z => ?_
    · exact ⟨_, rfl, _, rfl, ra, _, (i0 : Int), _, rfl, rfl, e6.st hra, int_at (by rw [List.length_map]; exact hi0), g2 _ (if_pos (decide_eq_true z)) _ H6 (Ex.refl _) rfl (.int _)⟩
    · exact g1 (if_neg (by rw [decide_eq_false z]; decide)) H6 (Ex.refl _)
  · intro ys H4 e4 h4 hy
    rw [cut_rng] at hy
    have := dpa_ints hy
    subst this
    exact ⟨D, _, rfl, .inl ⟨.inl (.inl h4), fun t ht => q _ t (Fr.new e4 ht) (e4.trans (Ex.new ht)) upd_same⟩⟩
/-! ### _law_is_least -/
/-- the largest entry at a place -/
def topAt (V : List (List Int)) (i m : Int) : Prop := m ∈ V.map (fun v => v.getD i.toNat 0) ∧ ∀ y ∈ V.map (fun v => v.getD i.toNat 0), y ≤ m
def leastB (V : List (List Int)) (ps : List Int) (i : Nat) (m : Int) : Option Int → Int → Bool
  | none, top => decide (numV V (ps.set i (top * m)) < m)
  | some t, _ => if t < 0 ∨ numV V (ps.set i t) < m then false else decide (t = 0) || decide (numV V (ps.set i (t - 1)) < m)
def spLeast (T : Tl) (K : PySem.W.Frag) : Sp := fun vs H Q _ => ∃ (wa pa : Addr) (xs : List V) (V' : List (List Int)) (ps : List Int) (i : Nat) (m : Int) (told : Option Int), vs = [.ref wa, .ref pa, .int (i : Int), .int m, oV told] ∧ SqL K H wa xs ∧ DpAll K H xs (V'.map tupI) ∧ SqT K H pa (ps.map V.int) ∧ Rows ps.length V' ∧ Small V' ∧ ps.length ≤ 8 ∧ V'.length ≤ 1000 ∧ 0 < V'.length ∧ i < ps.length ∧
  ∀ H', Ex T H H' → ∀ top, topAt V' i top → Q (.bl (leastB V' ps i m told top)) H'
theorem set_map (ps : List Int) (i : Nat) (x : Int) : ((ps.set i x).length) = ps.length := List.length_set
theorem ok_is_least (U : Txt K mg A D) : FnOk P w K mg base CX0 3 (A 54) (D 54) ["_law_ways_here", "_law_pool", "_law_at", "_law_many", "_law_told"] (spLeast T K) := by
  have G_l_number : FnOk P w K mg base CX0 2 (A 51) (D 51) ["_law_ways_here", "_law_pool"] (spNumV T K) := ok_number U
  have G_l_with : FnOk P w K mg base CX0 1 (A 52) (D 52) ["_law_pool", "_law_at", "_law_amount_here"] (spWith T K) := ok_with U
  refine (F_l_is_least U).ok sc_l_is_least (fun vs H Q E h => by obtain ⟨_, _, _, _, _, _, _, _, rfl, _⟩ := h; rfl) (fun cdv A' outer s H vs Q E hr h => ?_)
  obtain ⟨wa, pa, xs, V', ps, i, m, told, rfl, hw, hxs, hp, hR, hS, hn, hVl, hV0, hi, q⟩ := h
  refine ⟨_, PSs.nox (pss_cons
      (ps_if (pt_cmpR op_isN (pv 4) pe_non (nomark _))
       (pss_one
       (ps_ret (pe_cmpR op_lt (pe_f G_l_number hr (by omega) (g_l_number U) (F_l_number U).kp (b_l_number U) (pa_cons (pv 0) (pa_cons (pe_f G_l_with hr (by omega) (g_l_with U) (F_l_with U).kp (b_l_with U) (pa_cons (pv 1) (pa_cons (pv 2) (pa_cons (pe_op op_mul (pe_callB (kc_max K) (by rfl) (z_max U) boot_max (pa_cons (pe_lc (g := gName 5) (tt := tYes) rfl sc_l_is_least.nd (ki_list K (pv 0)) (blkOk_by (N := N_l_is_least) (own := [("_law_way", 5)]) (by kernel_rfl)) (fun _ _ _ _ _ => (pg_name (i := 5) sc_l_is_least.nd rfl (.inl rfl))) (fun _ _ _ _ _ => pts_nil) (fun _ _ _ _ _ => (pe_ix (kx_tup K) (pv 5) (pv 2) (fun _ _ => rfl)))) pa_nil)) (pv 3)) pa_nil)))) pa_nil))) (pv 3) (nomark _))))
       pss_nil)
      (pss_cons
      (ps_if (PW.pt (pw_or (pt_not (pt_val (pe_callB (kc_isi K) (by rfl) (z_isinstance U) boot_isinstance (pa_cons (pv 4) (pa_cons (pe_bltn (v := .ty "int") (by rfl) (z_int U) boot_int rfl) pa_nil))))) (pw_or (pt_val (pe_callB (kc_isi K) (by rfl) (z_isinstance U) boot_isinstance (pa_cons (pv 4) (pa_cons (pe_bltn (v := .ty "bool") (by rfl) (z_bool U) boot_bool rfl) pa_nil)))) (pw_or (pt_cmpR op_lt (pv 4) pe_int (nomark _)) (pw_or1 (pt_cmpR op_lt (pe_f G_l_number hr (by omega) (g_l_number U) (F_l_number U).kp (b_l_number U) (pa_cons (pv 0) (pa_cons (pe_f G_l_with hr (by omega) (g_l_with U) (F_l_with U).kp (b_l_with U) (pa_cons (pv 1) (pa_cons (pv 2) (pa_cons (pv 4) pa_nil)))) pa_nil))) (pv 3) (nomark _)))))))
       (pss_one
       (ps_ret pe_bl))
       pss_nil)
      (pss_one
      (ps_ret (pe_or (pe_cmpR op_eq (pv 4) pe_int (nomark _)) (pe_one (pe_cmpR op_lt (pe_f G_l_number hr (by omega) (g_l_number U) (F_l_number U).kp (b_l_number U) (pa_cons (pv 0) (pa_cons (pe_f G_l_with hr (by omega) (g_l_with U) (F_l_with U).kp (b_l_with U) (pa_cons (pv 1) (pa_cons (pv 2) (pa_cons (pe_op op_sub (pv 4) pe_int) pa_nil)))) pa_nil))) (pv 3) (nomark _)))))))), ?_⟩
  have hxl : xs.length = V'.length := by rw [dpa_len hxs, List.length_map]
  have top_ex : ∃ top, topAt V' i top := by
    have hne : V'.map (fun v => v.getD i 0) ≠ [] := fun z => by
      have z2 := List.map_eq_nil_iff.mp z
      rw [z2] at hV0; exact absurd hV0 (Nat.lt_irrefl 0)
    obtain ⟨m0, h1, h2⟩ : ∃ m0 ∈ V'.map (fun v => v.getD i 0), ∀ y ∈ V'.map (fun v => v.getD i 0), y ≤ m0 := by
      generalize V'.map (fun v => v.getD i 0) = l at hne
      induction l with
      | nil => exact absurd rfl hne
      | cons x r ih =>
        by_cases hr : r = []
        · subst hr; exact ⟨x, List.mem_cons_self, fun y hy => by rw [List.mem_singleton.mp hy]; exact Int.le_refl _⟩
        · obtain ⟨m0, h1, h2⟩ := ih hr
          by_cases hx : m0 ≤ x
          · exact ⟨x, List.mem_cons_self, fun y hy => by
              rcases List.mem_cons.mp hy with rfl | hy
              · exact Int.le_refl _
              · have := h2 y hy; omega⟩
          · exact ⟨m0, List.mem_cons_of_mem _ h1, fun y hy => by
              rcases List.mem_cons.mp hy with rfl | hy
              · omega
              · exact h2 y hy⟩
    exact ⟨m0, h1, h2⟩
  cases told with
  | none =>
    refine ⟨_, rfl, rfl, _, rfl, ?_⟩
    refine ⟨_, rfl, _, rfl, _, rfl, _, rfl, wa, rfl, ⟨xs, hw⟩, fun D hD => ?_⟩
    refine map_lst (T := T) hw hxs (fun v => some (.int (v.getD i 0))) (by omega) hD ?_ ?_
    · intro v y H' E N hv e hy _ hE
      obtain ⟨la, rfl, hla⟩ := Dp.tup_ints hy
      exact ⟨rfl, _, rfl, _, rfl, la, _, (i : Int), _, rfl, rfl, hla, int_at (by rw [hR v hv]; exact hi), hE _ rfl _ H' (Ex.refl _) rfl (.int _)⟩
    · intro ys H1 e1 h1 hy
      rw [fm_some, show (V'.map fun v => PyData.int (v.getD i 0)) = (V'.map fun v => v.getD i 0).map .int by rw [List.map_map]; rfl] at hy
      have := dpa_ints hy
      subst this
      refine ⟨D, _, rfl, .inl (.inl h1), by rw [List.length_map]; exact hV0, fun top t1 t2 => ?_⟩
      have htop : topAt V' i top := ⟨t1, t2⟩
      have htb : 0 ≤ top ∧ top ≤ 1000 := by
        obtain ⟨v, hv, e⟩ := List.mem_map.mp t1
        have := hS v hv (v.getD i 0) (by rw [List.getD_eq_getElem?_getD, List.getElem?_eq_getElem (by rw [hR v hv]; exact hi)]; exact List.getElem_mem _)
        rw [e] at this; exact this
      refine ⟨_, rfl, top, m, rfl, rfl, .inl ⟨by omega, by omega⟩, pa, ps, i, top * m, rfl, e1.st hp, hi, hn, fun H2 p2 e2 h2 => ?_⟩
      have e12 := e1.trans e2
      refine ⟨wa, p2, xs, V', ps.set i (top * m), rfl, e12.sl hw, e12.dpa hxs, h2, by rw [List.length_set]; exact hR, hS, by rw [List.length_set]; exact hn, hVl, fun H3 e3 => ⟨_, rfl, _, m, rfl, rfl, q H3 (e12.trans e3) top htop⟩⟩
  | some t =>
    obtain ⟨top, htop⟩ := top_ex
    have hq : ∀ H', Ex T H H' → Q (.bl (if t < 0 ∨ numV V' (ps.set i t) < m then false else decide (t = 0) || decide (numV V' (ps.set i (t - 1)) < m))) H' := fun H' e => q H' e top htop
    refine ⟨_, rfl, rfl, _, rfl, ?_⟩
    have ki : Kd K H (.int t) "int" := .int t
    refine ⟨_, rfl, .int t, .ty "int", _, _, _, rfl, .ty "int", ki.ty, ki.k_int, _, rfl, ?_⟩
    refine ⟨_, rfl, .int t, .ty "bool", _, _, _, rfl, .ty "bool", ki.ty, ki.k_bool, _, rfl, ?_⟩
    refine ⟨_, rfl, t, 0, rfl, rfl, _, rfl, ?_⟩
    by_cases z : t < 0
    · rw [decide_eq_true z]
      have := hq H (Ex.refl H)
      rw [if_pos (.inl z)] at this
      exact this
    rw [decide_eq_false z]
    refine ⟨_, rfl, _, rfl, _, rfl, _, rfl, pa, ps, i, t, rfl, hp, hi, hn, fun H2 p2 e2 h2 => ?_⟩
    refine ⟨wa, p2, xs, V', ps.set i t, rfl, e2.sl hw, e2.dpa hxs, h2, by rw [List.length_set]; exact hR, hS, by rw [List.length_set]; exact hn, hVl, fun H3 e3 => ⟨_, rfl, _, m, rfl, rfl, _, rfl, if_dec (fun z2 => ?_) fun z2 => ?_⟩⟩
    · have := hq H3 (e2.trans e3)
      rw [if_pos (.inr z2)] at this
      exact this
    · have hq3 := fun H' e => hq H' ((e2.trans e3).trans e)
      rw [if_neg (fun y => Or.elim y z z2)] at hq3
      refine ⟨_, rfl, rfl, _, rfl, ?_⟩
      rw [show decide (oV (some t) = V.int 0) = decide (t = 0) from decide_eq_decide.mpr ⟨fun y => V.int.inj y, fun z => by rw [z]; rfl⟩]
      refine if_dec (fun z3 => ?_) fun z3 => ?_
      · have := hq3 H3 (Ex.refl _)
        rw [decide_eq_true z3] at this
        exact this
      · rw [decide_eq_false z3] at hq3
        refine ⟨_, rfl, _, rfl, _, rfl, _, rfl, t, 1, rfl, rfl, pa, ps, i, t - 1, rfl, (e2.trans e3).st hp, hi, hn, fun H4 p4 e4 h4 => ?_⟩
        have e14 := (e2.trans e3).trans e4
        refine ⟨wa, p4, xs, V', ps.set i (t - 1), rfl, e14.sl hw, e14.dpa hxs, h4, by rw [List.length_set]; exact hR, hS, by rw [List.length_set]; exact hn, hVl, fun H5 e5 => ⟨_, rfl, _, m, rfl, rfl, hq3 H5 (e4.trans e5)⟩⟩
end
end K23
/-! V8: _law_idle. -/
namespace K23
open PySem PySem.Spec PyProof.Rows L2
theorem nodes_pos1 (f : Fm Str) : 1 ≤ nodes f := by
  cases f with
  | kind s => rw [nodes_kind]; exact Nat.le_refl _
  | many n p => rw [nodes_many]; omega
  | node b ps => rw [nodes_node]; omega
theorem shp_encsL {ps : List (Fm Str)} (h : ∀ p ∈ ps, FmOk p) (hd : ∀ p ∈ ps, depth p ≤ 24) : SeqAt.shaped (.list (ps.map enc)) = true := by
  unfold SeqAt.shaped
  rw [PyData.canLay0, ← encL_eq, can_encL ps, PyData.depth]
  · have h1 := depth_encL ps
    have h2 := depthL_le (n := 24) hd
    exact decide_eq_true (by omega)
  · intro s hs
    obtain ⟨p, hp, hs⟩ := mem_namesL.mp hs
    exact ((h p hp).nm s hs).ok
theorem fm_last {os : List (Fm Str)} (h : os ≠ []) : ∃ init z, os = init ++ [z] := ⟨os.dropLast, os.getLast h, (List.dropLast_concat_getLast h).symm⟩
section
variable {T : Tl} {P : Program} {w : World} {K : PySem.W.Frag} {mg : Str → Option Value} {base : Heap} {A : Nat → Addr} {D : Nat → FuncData}
def idle (Ks : List Str) (f : Fm Str) : List Str := Ks.filter fun s => decide (s ∉ f.names)
def spIdle (T : Tl) (K : PySem.W.Frag) : Sp := fun vs H Q _ => ∃ (k : Addr) (v : V) (Ks : List Str) (f : Fm Str), vs = [.ref k, v] ∧ SqT K H k (Ks.map V.str) ∧ Ks.length ≤ 8 ∧ Dp K H v (enc f) ∧ FmOk f ∧ depth f < 24 ∧ nodes f ≤ 40 ∧
  ∀ H' p, Fr H p → Ex T H H' → H' p = some (.tup ((idle Ks f).map V.str)) → Q (.ref p) H'
theorem ok_idle (U : Txt K mg A D) : FnOk P w K mg base CX0 1 (A 58) (D 58) ["_law_kinds", "_law_formula_here"] (spIdle T K) := by
  refine (F_l_idle U).ok sc_l_idle (fun vs H Q E h => by obtain ⟨_, _, _, _, rfl, _⟩ := h; rfl) (fun cdv A' outer s H vs Q E hr h => ?_)
  obtain ⟨k, v, Ks, f, rfl, hk, hn, hv, hok, hdep, hnod, q⟩ := h
  refine ⟨_, PSs.nox (pss_cons
      (ps_asg (pe_tup (pa_cons (pe_lst pa_nil) (pa_cons (pe_lst (pa_cons (pv 1) pa_nil)) pa_nil))) (kg_tup K (n := 2) (pgs_cons (pg_name (i := 2) sc_l_idle.nd rfl (.inr rfl)) (pgs_cons (pg_name (i := 3) sc_l_idle.nd rfl (.inl rfl)) pgs_nil))))
      (pss_cons
      (ps_for PassesOwn.never rfl (pi_range1 (by rfl) (z_range U) (pa_cons pe_int pa_nil)) (pg_name (i := 4) sc_l_idle.nd rfl (.inl rfl))
       (pss_one
       (ps_if (pt_cmpR (ko_neD K hr.units) (pv 3) (pe_lst pa_nil) (nomark _))
        (pss_cons
        (ps_set (i := 5) sc_l_idle.nd rfl (.inl rfl) (kb_m0 K PySem.F.plainAttrs_list PySem.F.slot_list_pop PySem.F.type_list_pop mt_pop (pv 3)))
        (pss_one
        (ps_if (pt_cmpR op_eq (pe_ix (kx_tup K) (pv 5) pe_int (fun _ _ => rfl)) pe_str (nomark _))
         (pss_one
         (ps_expr (kb_m K PySem.F.plainAttrs_list PySem.F.slot_list_append PySem.F.type_list_append mt_append (pv 2) (pa_cons (pe_ix (kx_tup K) (pv 5) pe_int (fun _ _ => rfl)) pa_nil))))
         (pss_one
         (ps_if (pt_cmpR op_eq (pe_ix (kx_tup K) (pv 5) pe_int (fun _ _ => rfl)) pe_str (nomark _))
          (pss_one
          (ps_expr (kb_m K PySem.F.plainAttrs_list PySem.F.slot_list_append PySem.F.type_list_append mt_append (pv 3) (pa_cons (pe_ix (kx_tup K) (pv 5) pe_int (fun _ _ => rfl)) pa_nil))))
          (pss_one
          (ps_set (i := 3) sc_l_idle.nd rfl (.inl rfl) (pe_op op_cat (pv 3) (pe_callTy (kc_list K) (by rfl) (z_list U) boot_list (pa_cons (pe_ix (kx_tup K) (pv 5) pe_int (fun _ _ => rfl)) pa_nil))))))))))
        pss_nil)))
      (pss_one
      (ps_ret (pe_callTy (kc_tuple K) (by rfl) (z_tuple U) boot_tuple (pa_cons (pe_lc (g := gName 6) rfl sc_l_idle.nd (ki_tup K (pv 0)) (blkOk_by (N := N_l_idle) (own := [("_law_kind", 6)]) (by kernel_rfl)) (fun _ _ _ _ _ => (pg_name (i := 6) sc_l_idle.nd rfl (.inl rfl))) (fun _ _ _ _ _ => (pts_one (pt_cmpR (ko_notIn K) (pv 6) (pv 2) rfl))) (fun _ _ _ _ _ => (pv 6))) pa_nil)))))), ?_⟩
  refine ⟨sz_ok (n := 0) (by decide), fun nl hnl => ⟨_, rfl, sz_ok (n := 1) (by decide), fun oa0 hoa => ⟨sz_ok (n := 2) (by decide), fun tp htp => ?_⟩⟩⟩
  have e0 : Ex T H (upd (upd H nl (.lst [])) oa0 (.lst [v])) := (Ex.new hnl).trans (Ex.new hoa)
  have e1 : Ex T H (upd (upd (upd H nl (.lst [])) oa0 (.lst [v])) tp (.tup [.ref nl, .ref oa0])) := e0.trans (Ex.new htp)
  have fnl : Fr H nl := Fr.of hnl
  have foa : Fr H oa0 := Fr.new (Ex.new (T := T) hnl) hoa
  have nno : nl ≠ oa0 := fun z => by rw [z, upd_same] at hoa; cases hoa
  have hoa1 : (upd (upd (upd H nl (.lst [])) oa0 (.lst [v])) tp (.tup [.ref nl, .ref oa0])) oa0 = some (.lst [v]) := by rw [upd_ne (ne_of_none upd_same htp)]; exact upd_same
  have hnl1 : (upd (upd (upd H nl (.lst [])) oa0 (.lst [v])) tp (.tup [.ref nl, .ref oa0])) nl = some (.lst []) := by
    have h2 : (upd (upd H nl (.lst [])) oa0 (.lst [v])) nl = some (.lst []) := by rw [upd_ne nno]; exact upd_same
    rw [upd_ne (ne_of_none h2 htp)]; exact h2
  refine ⟨tp, _, rfl, .inl (.inl upd_same), rfl, _, _, rfl, _, _, rfl, rfl, ?_⟩
  refine ⟨40, rfl, by decide, by decide, ?_⟩
  rw [show (40 : Int).toNat = 40 from rfl]
  refine for_it walk_range (fun i σ H' => ∃ (oa : Addr) (y4 y5 : Option V) (us : List V) (ns : List Str) (os : List (Fm Str)), σ = [some (.ref k), some v, some (.ref nl), some (.ref oa), y4, y5, none] ∧ Ex T H H' ∧ Fr H oa ∧ nl ≠ oa ∧ H' nl = some (.lst (ns.map V.str)) ∧ H' oa = some (.lst us) ∧ DpAll K H' us (os.map enc) ∧
    (∀ o ∈ os, FmOk o ∧ depth o ≤ 24) ∧ (os.map nodes).sum + i ≤ 40 + (if os = [] then i else 0) ∧ ns.length ≤ i ∧ ∀ s, s ∈ f.names ↔ s ∈ ns ∨ ∃ o ∈ os, s ∈ o.names) ?_ (fun _ _ _ _ _ => trivial) ?_ ?_
  · refine ⟨oa0, none, none, [v], [], [f], rfl, e1, foa, nno, hnl1, hoa1, .cons (e1.dp hv) .nil, fun o ho => ?_, ?_, Nat.le_refl _, fun s => ?_⟩
    · rw [List.mem_singleton.mp ho]; exact ⟨hok, by omega⟩
    · simp; omega
    · simp
  · rintro i x σ H2 H3 hi ⟨oa, y4, y5, us, ns, os, rfl, e2, foa2, nn2, hnl2, hoa2, hus, hos, hsum, hnsl, hmem⟩ ⟨rfl, rfl⟩
    have hul : us.length = os.length := by rw [dpa_len hus, List.length_map]
    refine ⟨_, rfl, Nat.zero_le _, fun p hp => ?_⟩
    have e3 := Ex.new (T := T) hp (o := .lst [])
    have hoa3 := e3.lst hoa2
    have hnl3 := e3.lst hnl2
    have hus3 := e3.dpa hus
    have e23 := e2.trans e3
    refine ⟨.list (os.map enc), .list [], .lst (.inl (.inl hoa3)) hus3, .lst (.inl (.inl upd_same)) .nil, shp_encsL (fun o ho => (hos o ho).1) (fun o ho => (hos o ho).2), shp_lst_ints [], _, rfl, ?_⟩
    rw [eqv_nil, ← decide_not]
    refine if_dec (fun z => ?_) fun z => ?_
    · have hne : os ≠ [] := fun y => z (by rw [y]; rfl)
      rw [if_neg hne, Nat.add_zero] at hsum
      obtain ⟨init, o, rfl⟩ := fm_last hne
      have ho := hos o (by simp)
      have hio : ∀ o' ∈ init, FmOk o' ∧ depth o' ≤ 24 := fun o' h => hos o' (List.mem_append_left _ h)
      rw [List.map_append, List.sum_append, List.map_singleton, List.sum_singleton] at hsum
      -- the last value
      obtain ⟨ui, x1, rfl, hui, hx1⟩ : ∃ ui x1, us = ui ++ [x1] ∧ DpAll K (upd H3 p (.lst [])) ui (init.map enc) ∧ Dp K (upd H3 p (.lst [])) x1 (enc o) := by
        have hne2 : us ≠ [] := fun y => by rw [y] at hul; simp at hul
        have hl2 : us.dropLast.length = init.length := by rw [List.length_dropLast, hul, List.length_append]; simp
        rw [← List.dropLast_concat_getLast hne2, List.map_append] at hus3
        obtain ⟨h1, h2⟩ := dpa_split (by rw [List.length_map]; exact hl2) hus3
        cases h2 with
        | cons h3 _ => exact ⟨us.dropLast, us.getLast hne2, (List.dropLast_concat_getLast hne2).symm, h1, h3⟩
      refine ⟨_, rfl, .inl ⟨rfl, _, .inl (.inl hoa3)⟩, oa, _, x1, rfl, rfl, hoa3, by simp, ?_⟩
      rw [List.dropLast_concat]
      have e4 : Ex T H (upd (upd H3 p (.lst [])) oa (.lst ui)) := e23.lstF foa2 hoa3
      have keep4 : ∀ {y : V} {d : PyData}, flatD d = true → Dp K (upd H3 p (.lst [])) y d → Dp K (upd (upd H3 p (.lst [])) oa (.lst ui)) y d := fun fl h => dp_monoT (tup_updL hoa3) _ _ fl h
      have hui4 : DpAll K (upd (upd H3 p (.lst [])) oa (.lst ui)) ui (init.map enc) := dpa_monoT (tup_updL hoa3) _ _ (flat_gs _) hui
      have hnl4 : (upd (upd H3 p (.lst [])) oa (.lst ui)) nl = some (.lst (ns.map V.str)) := by rw [upd_ne nn2]; exact hnl3
      have hx4 := keep4 (flat_enc o) hx1
      generalize hH4 : upd (upd H3 p (.lst [])) oa (.lst ui) = H4 at e4 hui4 hnl4 hx4
      have hoa4 : H4 oa = some (.lst ui) := by rw [← hH4]; exact upd_same
      have hil : init.length ≤ 40 := by
        have : init.length ≤ (init.map nodes).sum := by
          clear hsum hui hui4 hmem hos hio hus hul hus3 hne z
          induction init with
          | nil => exact Nat.le_refl _
          | cons g r ih => rw [List.map_cons, List.sum_cons, List.length_cons]; have := nodes_pos1 g; omega
        omega
      have huil : ui.length = init.length := by rw [dpa_len hui, List.length_map]
      cases o with
      | kind s0 =>
        obtain ⟨a, rfl, ha⟩ := at_kind hx4
        refine if_word rfl ha (fun _ => ?_) (fun y => absurd rfl y)
        refine ⟨_, rfl, .inl ⟨rfl, _, .inl (.inl hnl4)⟩, _, rfl, a, _, 1, .str s0, rfl, rfl, ha, atI_nat (j := 1) rfl, nl, _, _, rfl, rfl, hnl4, by rw [List.length_map]; exact sz_lt (by omega), ?_⟩
        refine ⟨oa, _, _, ui, ns ++ [s0], init, rfl, e4.lstF fnl hnl4, foa2, nn2, ?_, by rw [upd_ne nn2.symm]; exact hoa4, dpa_monoT (tup_updL hnl4) _ _ (flat_gs _) hui4, hio, ?_, by rw [List.length_append]; simp; omega, fun s => ?_⟩
        · rw [upd_same, List.map_append]; rfl
        · rw [nodes_kind] at hsum; omega
        · rw [hmem s, List.mem_append, List.mem_singleton]
          constructor
          · rintro (h | ⟨o', ho', h⟩)
            · exact .inl (.inl h)
            · rcases List.mem_append.mp ho' with h2 | h2
              · exact .inr ⟨o', h2, h⟩
              · rw [List.mem_singleton.mp h2, names_kind] at h
                exact .inl (.inr (List.mem_singleton.mp h))
          · rintro ((h | h) | ⟨o', ho', h⟩)
            · exact .inl h
            · exact .inr ⟨_, List.mem_append_right _ (List.mem_singleton_self _), by rw [names_kind, h]; exact List.mem_singleton_self _⟩
            · exact .inr ⟨o', List.mem_append_left _ ho', h⟩
      | many m g =>
        obtain ⟨a, u, rfl, ha, hu⟩ := at_many hx4
        refine if_word rfl ha (fun y => absurd y n_mk) (fun _ => if_word rfl ha (fun _ => ?_) (fun y => absurd rfl y))
        refine ⟨_, rfl, .inl ⟨rfl, _, .inl (.inl hoa4)⟩, _, rfl, a, _, 2, u, rfl, rfl, ha, atI_nat (j := 2) rfl, oa, _, _, rfl, rfl, hoa4, sz_lt (by omega), ?_⟩
        refine ⟨oa, _, _, ui ++ [u], ns, init ++ [g], rfl, e4.lstF foa2 hoa4, foa2, nn2, by rw [upd_ne nn2]; exact hnl4, upd_same, ?_, fun o' ho' => ?_, ?_, by omega, fun s => ?_⟩
        · rw [List.map_append]
          exact dpa_monoT (tup_updL hoa4) _ _ (flat_app (flat_gs _) (flat_gs [g])) (dpa_app hui4 (.cons hu .nil))
        · rcases List.mem_append.mp ho' with h | h
          · exact hio o' h
          · rw [List.mem_singleton.mp h]
            have := ho.2
            rw [depth_many] at this
            exact ⟨ho.1.many, by omega⟩
        · rw [nodes_many] at hsum
          rw [List.map_append, List.sum_append, List.map_singleton, List.sum_singleton, if_neg (by simp)]; omega
        · rw [hmem s]
          constructor
          · rintro (h | ⟨o', ho', h⟩)
            · exact .inl h
            · rcases List.mem_append.mp ho' with h2 | h2
              · exact .inr ⟨o', List.mem_append_left _ h2, h⟩
              · rw [List.mem_singleton.mp h2, names_many] at h
                exact .inr ⟨g, List.mem_append_right _ (List.mem_singleton_self _), h⟩
          · rintro (h | ⟨o', ho', h⟩)
            · exact .inl h
            · rcases List.mem_append.mp ho' with h2 | h2
              · exact .inr ⟨o', List.mem_append_left _ h2, h⟩
              · rw [List.mem_singleton.mp h2] at h
                exact .inr ⟨_, List.mem_append_right _ (List.mem_singleton_self _), by rw [names_many]; exact h⟩
      | node b ps =>
        obtain ⟨a, c, us2, rfl, ha, hc, hu⟩ := at_node hx4
        refine if_word rfl ha (fun y => absurd y (n_nk b)) (fun _ => if_word rfl ha (fun y => absurd y (n_nm b)) (fun _ => ?_))
        have hps8 := ho.1.names_node
        have hul2 : us2.length = ps.length := by rw [dpa_len hu, List.length_map]
        refine ⟨_, rfl, _, rfl, a, _, 1, .ref c, rfl, rfl, ha, atI_nat (j := 1) rfl, c, us2, rfl, .inr hc, fun l2 hl2 => ?_⟩
        have e5 := Ex.new (T := T) hl2 (o := .lst us2)
        refine ⟨oa, l2, ui, us2, rfl, rfl, e5.lst hoa4, upd_same, by rw [huil, hul2]; exact sz_ok (by omega), fun p6 hp6 => ?_⟩
        have e6 := e5.trans (Ex.new hp6 (o := .lst (ui ++ us2)))
        refine ⟨p6, _, _, ui ++ us2, ns, init ++ ps, rfl, e4.trans e6, Fr.new (e4.trans e5) hp6, ne_of_none (e5.lst hnl4) hp6, e6.lst hnl4, upd_same, ?_, fun o' ho' => ?_, ?_, by omega, fun s => ?_⟩
        · rw [List.map_append]; exact e6.dpa (dpa_app hui4 hu)
        · rcases List.mem_append.mp ho' with h | h
          · exact hio o' h
          · have h1 := depth_part h
            have h2 := ho.2
            rw [depth_node] at h2
            exact ⟨ho.1.part h, by omega⟩
        · rw [nodes_node, nodesL_eq] at hsum
          rw [List.map_append, List.sum_append]; omega
        · rw [hmem s]
          constructor
          · rintro (h | ⟨o', ho', h⟩)
            · exact .inl h
            · rcases List.mem_append.mp ho' with h2 | h2
              · exact .inr ⟨o', List.mem_append_left _ h2, h⟩
              · rw [List.mem_singleton.mp h2, names_node] at h
                obtain ⟨p', hp', h⟩ := List.mem_flatMap.mp h
                exact .inr ⟨p', List.mem_append_right _ hp', h⟩
          · rintro (h | ⟨o', ho', h⟩)
            · exact .inl h
            · rcases List.mem_append.mp ho' with h2 | h2
              · exact .inr ⟨o', List.mem_append_left _ h2, h⟩
              · exact .inr ⟨_, List.mem_append_right _ (List.mem_singleton_self _), (names_part h2).subset h⟩
    · have hnil : os = [] := Classical.byContradiction fun y => z fun y2 => y (List.map_eq_nil_iff.mp y2)
      subst hnil
      refine ⟨oa, _, _, us, ns, [], rfl, e23, foa2, nn2, hnl3, hoa3, hus3, hos, ?_, by omega, hmem⟩
      simp
  · rintro σ H2 ⟨oa, y4, y5, us, ns, os, rfl, e2, foa2, nn2, hnl2, hoa2, hus, hos, hsum, hnsl, hmem⟩
    have hnil : os = [] := Classical.byContradiction fun y => by
      rw [if_neg y] at hsum
      obtain ⟨g, hg⟩ : ∃ g, g ∈ os := List.exists_mem_of_ne_nil os y
      have : nodes g ≤ (os.map nodes).sum := by
        clear hsum hmem hos hus y
        induction os with
        | nil => cases hg
        | cons o r ih =>
          rw [List.map_cons, List.sum_cons]
          rcases List.mem_cons.mp hg with rfl | hg
          · omega
          · have := ih hg; omega
      have := nodes_pos1 g
      omega
    subst hnil
    have hmem2 : ∀ s, s ∈ ns ↔ s ∈ f.names := fun s => by rw [hmem s]; simp
    refine ⟨_, rfl, k, rfl, ⟨_, e2.st hk⟩, fun D hD => ?_⟩
    refine map_tup (T := T) (e := PyData.str) (as := Ks) (e2.st hk) (dpa_of_strs _) (fun s => if decide (s ∉ f.names) then some (.str s) else none) (by omega) hD ?_ ?_
    · intro s x H' E N hs e hx g1 g2
      have := hx.at_str
      subst this
      refine ⟨rfl, _, rfl, _, rfl, nl, _, rfl, .inl (.inl (.inl (e.lst hnl2))), rfl, flat_strs _, _, rfl, ?_⟩
      rw [in_strs, if_pos rfl, ← decide_not]
      refine if_dec (fun z => ?_) fun z => ?_
      · exact ⟨_, rfl, g2 _ (if_pos (decide_eq_true (show s ∉ f.names from fun y => z ((hmem2 s).mpr y)))) _ H' (Ex.refl _) rfl (.str s)⟩
      · exact g1 (if_neg (by rw [decide_eq_false (show ¬ s ∉ f.names from fun y => z fun y2 => y ((hmem2 s).mp y2))]; decide)) H' (Ex.refl _)
    · intro ys H4 e4 h4 hy
      rw [fm_filter] at hy
      have := dpa_strs hy
      subst this
      exact ⟨D, _, rfl, .inl ⟨.inl (.inl h4), fun t ht => q _ t (Fr.new (e2.trans e4) ht) ((e2.trans e4).trans (Ex.new ht)) upd_same⟩⟩
end
end K23
/-! V9: _law_heap. -/
namespace K23
open PySem PySem.Spec PyProof.Rows L2
section
variable {T : Tl} {P : Program} {w : World} {K : PySem.W.Frag} {mg : Str → Option Value} {base : Heap} {A : Nat → Addr} {D : Nat → FuncData}
def spHeapO (T : Tl) (K : PySem.W.Frag) : Sp := fun vs H Q _ => ∃ (sa : Addr) (ns : List Int), vs = [.ref sa] ∧ SqL K H sa (ns.map V.int) ∧ ns.length ≤ 63 ∧
  ∀ H' a l (s : Int) (cs : List Int), Ex T H H' → l ≠ a → Fr H a → Fr H l → H' a = some (.lst [.ref l, .int s]) → H' l = some (.lst (cs.map V.int)) → 0 ≤ s → (∀ x ∈ cs, 0 ≤ x) → cs.length ≤ 100 → Q (.ref a) H'
def spHeap (T : Tl) (K : PySem.W.Frag) : Sp := fun vs H Q _ => ∃ (sa : Addr) (ns : List Int), vs = [.ref sa] ∧ SqL K H sa (ns.map V.int) ∧ ns.length ≤ 63 ∧ ∀ H' a, Ex T H H' → Dh H' a → Q (.ref a) H'
theorem hpA_stay {a l : Addr} : ∀ h1 h2 : Heap, (∃ (s : Int) (t : Tok) (n : Nat), 0 ≤ s ∧ h1.get? a = some { cls := .type "list", data := .seq [Value.ref l, Value.int s t].toArray n }) → (∀ o, h1.get? a = some o → h2.get? a = some o) →
    ∃ (s : Int) (t : Tok) (n : Nat), 0 ≤ s ∧ h2.get? a = some { cls := .type "list", data := .seq [Value.ref l, Value.int s t].toArray n } := fun _ _ ⟨s, t, n, h, e⟩ k => ⟨s, t, n, h, k _ e⟩
theorem hpL_stay {l : Addr} : ∀ h1 h2 : Heap, (∃ (ns : List Int) (its : List Value) (n : Nat), ns.length ≤ 100 ∧ (∀ x ∈ ns, 0 ≤ x) ∧ Vals (ns.map V.int) its ∧ h1.get? l = some { cls := .type "list", data := .seq its.toArray n }) → (∀ o, h1.get? l = some o → h2.get? l = some o) →
    ∃ (ns : List Int) (its : List Value) (n : Nat), ns.length ≤ 100 ∧ (∀ x ∈ ns, 0 ≤ x) ∧ Vals (ns.map V.int) its ∧ h2.get? l = some { cls := .type "list", data := .seq its.toArray n } := fun _ _ ⟨ns, its, n, h1, h2, h3, e⟩ k => ⟨ns, its, n, h1, h2, h3, k _ e⟩
theorem view_heap {k : Nat} {f : Addr} {fd : FuncData} (F : FnOk P w K mg base CX0 k f fd ["_law_script"] (spHeapO T K)) : FnOk P w K mg base CX0 k f fd ["_law_script"] (spHeap T K) := by
  refine ⟨fun vs H Q E h => by obtain ⟨_, _, rfl, _⟩ := h; rfl, fun A outer s H args us vs Q E hr e0 hb r hsp => ?_⟩
  obtain ⟨sa, ns, rfl, hs, hn, q⟩ := hsp
  refine codeAny_mono (F.run A outer s H args us _ (fun v H' => ∃ a l s' cs, v = .ref a ∧ Ex T H H' ∧ l ≠ a ∧ Fr H a ∧ Fr H l ∧ H' a = some (.lst [.ref l, .int s']) ∧ H' l = some (.lst (cs.map V.int)) ∧ 0 ≤ s' ∧ (∀ x ∈ cs, 0 ≤ x) ∧ cs.length ≤ 100) E hr e0 hb r
    ⟨sa, ns, rfl, hs, hn, fun H' a l s' cs h1 h2 h3 h4 h5 h6 h7 h8 h9 => ⟨a, l, s', cs, rfl, h1, h2, h3, h4, h5, h6, h7, h8, h9⟩⟩) fun rs s' hq => ?_
  cases rs with
  | error e => exact hq
  | ok fl =>
    cases fl with
    | ret u =>
      obtain ⟨v, H1, os, bare, un, hok, rv, a, l, s1, cs, rfl, ex, nla, fa, fl, ha, hl, hs1, hcs, hcl⟩ := hq
      let H3 : Hp := upd (upd H1 a (HpA a l)) l (HpL l)
      have h3a : H3 a = some (HpA a l) := by
        show upd (upd H1 a _) l _ a = _
        rw [upd_ne nla.symm, upd_same]
      have h3l : H3 l = some (HpL l) := upd_same
      have h3o : ∀ b, b ≠ a → b ≠ l → H3 b = H1 b := fun b h1 h2 => by
        show upd (upd H1 a _) l _ b = _
        rw [upd_ne h2, upd_ne h1]
      have e1 : Ex T H (upd H1 a (HpA a l)) := ex.lstF fa ha
      have e3 : Ex T H H3 := e1.lstF fl (by rw [upd_ne nla]; exact hl)
      have un2 : Un (frs outer) [] H H3 s.heap s'.heap := by
        refine ⟨un.keep, un.slot, fun b o g n x => ?_, un.there, fun b xs h => e3.tup h, fun b o u h => e3.keep _ _ h (fun _ z => (by cases z)), fun b ps h => ?_⟩
        · have h1 := un.free b o g n x
          rw [h3o b (fun z => by rw [z, ha] at h1; cases h1) (fun z => by rw [z, hl] at h1; cases h1)]; exact h1
        · obtain ⟨more, h1⟩ := un.tbls b ps h
          exact ⟨more, by rw [h3o b (fun z => by rw [z, ha] at h1; cases h1) (fun z => by rw [z, hl] at h1; cases h1)]; exact h1⟩
      have hok2 : HOk P w H3 s'.heap := by
        intro b o hb
        by_cases z1 : b = l
        · subst z1
          rw [h3l] at hb; cases hb
          obtain ⟨_, its', n', hv', hg'⟩ := hok b _ hl
          exact ⟨⟨cs, its', n', hcl, hcs, hv', hg'⟩, ⟨_, hg'⟩, hpL_stay⟩
        · by_cases z2 : b = a
          · subst z2
            rw [h3a] at hb; cases hb
            obtain ⟨_, its', n', hv', hg'⟩ := hok b _ ha
            obtain ⟨t', rfl⟩ := vals_two_ref hv'
            exact ⟨⟨s1, t', n', hs1, hg'⟩, ⟨_, hg'⟩, hpA_stay⟩
          · rw [h3o b z2 z1] at hb
            refine (hok b o hb).stay (fun c u _ g => g) (fun c hc => ?_) fun c xs hc => ?_
            · rw [h3o c (fun z => by rw [z, ha] at hc; cases hc) (fun z => by rw [z, hl] at hc; cases hc)]; exact hc
            · rw [h3o c (fun z => by rw [z, ha] at hc; cases hc) (fun z => by rw [z, hl] at hc; cases hc)]; exact hc
      exact ⟨_, H3, os, bare, un2, hok2, rv, q H3 a e3 ⟨l, nla, h3a, h3l⟩⟩
    | next => exact hq
    | brk => exact hq
    | cont => exact hq
theorem ok_heap0 (U : Txt K mg A D) : FnOk P w K mg base CX0 1 (A 41) (D 41) ["_law_script"] (spHeapO T K) := by
  refine (F_l_heap U).ok sc_l_heap (fun vs H Q E h => by obtain ⟨_, _, rfl, _⟩ := h; rfl) (fun cdv A' outer s H vs Q E hr h => ?_)
  obtain ⟨sa, ns, rfl, hs, hn, q⟩ := h
  refine ⟨_, PSs.nox (pss_cons
      (ps_par (i := 2) (j := 3) rfl sc_l_heap.nd rfl rfl  (by decide)  rfl rfl  (pa_cons (pe_lc (g := gName 1) (tt := tYes) rfl sc_l_heap.nd (ki_list K (pe_slice (ks_list K) (pv 0) po_none (po_some pe_int))) (blkOk_by (N := N_l_heap) (own := [("_law_cell", 1)]) (by kernel_rfl)) (fun _ _ _ _ _ => (pg_name (i := 1) sc_l_heap.nd rfl (.inl rfl))) (fun _ _ _ _ _ => pts_nil) (fun _ _ _ _ _ => (pe_callB (call_abs) (by rfl) (z_abs U) boot_abs (pa_cons (pv 1) pa_nil)))) (pa_cons pe_int pa_nil)) (by kernel_rfl))
      (pss_cons
      (ps_for PassesOwn.never rfl (ki_list K (pv 2)) (pg_name (i := 1) sc_l_heap.nd rfl (.inl rfl))
       (pss_one
       (ps_set (i := 3) sc_l_heap.nd rfl (.inl rfl) (pe_op op_mod (pe_callTy (call_int1) (by rfl) (z_int U) boot_int (pa_cons (pe_op op_add (pe_op op_add (pe_op op_mul (pv 3) pe_int) (pe_op op_mod (pe_callTy (call_int1) (by rfl) (z_int U) boot_int (pa_cons (pv 1) pa_nil)) pe_int)) pe_int) pa_nil)) pe_int))))
      (pss_one
      (ps_ret (pe_lst (pa_cons (pe_revLK K (pe_lc (g := gName 1) rfl sc_l_heap.nd (ki_list K (pv 2)) (blkOk_by (N := N_l_heap) (own := [("_law_cell", 1)]) (by kernel_rfl)) (fun _ _ _ _ _ => (pg_name (i := 1) sc_l_heap.nd rfl (.inl rfl))) (fun _ _ _ _ _ => (pts_one (pt_cmpR op_ge (pv 1) (pe_op op_pow pe_int pe_int) (nomark _)))) (fun _ _ _ _ _ => (pv 1)))) (pa_cons (pv 3) pa_nil))))))), ?_⟩
  refine ⟨_, rfl, 60, rfl, sa, _, rfl, hs, fun p0 hp0 => ⟨p0, rfl, ⟨_, .inl (.inl upd_same)⟩, fun D hD => ?_⟩⟩
  have e1 := Ex.new (T := T) hp0 (o := .lst (cutV (ns.map V.int) none (some 60)))
  rw [show cutV (ns.map V.int) none (some 60) = (ns.take 60).map V.int by rw [List.map_take]; exact cut_take _ 60] at e1 hD ⊢
  refine map_lst (T := T) (K := K) (e := PyData.int) (as := ns.take 60) (.inl (.inl upd_same)) (dpa_of_ints _) (fun x => some (.int (if x < 0 then -x else x))) (by rw [List.length_take]; omega) hD ?_ ?_
  · intro x y H' E N _ e hy _ hE
    have := hy.at_int
    subst this
    exact ⟨rfl, _, rfl, x, rfl, hE _ rfl _ H' (Ex.refl _) rfl (.int _)⟩
  · intro ys H2 e2 h2 hy
    rw [fm_some, show ((ns.take 60).map fun x => PyData.int (if x < 0 then -x else x)) = ((ns.take 60).map fun x => if x < 0 then -x else x).map .int by rw [List.map_map]; rfl] at hy
    have := dpa_ints hy
    subst this
    obtain ⟨cs, hcs⟩ : ∃ cs : List Int, cs = (ns.take 60).map fun x => if x < 0 then -x else x := ⟨_, rfl⟩
    rw [← hcs] at h2
    have hcl : cs.length ≤ 60 := by rw [hcs, List.length_map, List.length_take]; omega
    have hc0 : ∀ x ∈ cs, 0 ≤ x := fun x hx => by
      rw [hcs] at hx
      obtain ⟨y, _, rfl⟩ := List.mem_map.mp hx
      split <;> omega
    have e12 := e1.trans e2
    refine ⟨_, _, rfl, _, rfl, D, rfl, ⟨_, .inl (.inl h2)⟩, ?_⟩
    refine for_it (walk_list (xs := cs.map V.int)) (fun i σ H' => ∃ (y1 : Option V) (st : Int), σ = [some (.ref sa), y1, some (.ref D), some (.int st)] ∧ 0 ≤ st ∧ H' = H2) ⟨none, 23017, rfl, by decide, rfl⟩ ?_ ?_ ?_
    · rintro i σ H' _ ⟨_, _, _, _, rfl⟩; exact .inl (.inl h2)
    · rintro i x σ H3 H4 hi ⟨y1, st, rfl, h0, rfl⟩ ⟨rfl, hx⟩
      rw [List.getElem?_map] at hx
      obtain ⟨c, _, rfl⟩ := Option.map_eq_some_iff.mp hx
      refine ⟨_, rfl, st, 69621, rfl, rfl, .inr ⟨by decide, by decide⟩, _, rfl, .inl ⟨c, rfl, c, 2147483543, rfl, rfl, (by show (0 : Int) < 2147483543; decide), _, _, rfl, rfl, _, 31, rfl, rfl, .inl ⟨_, rfl, _, 2147483647, rfl, rfl, (by show (0 : Int) < 2147483647; decide), ?_⟩⟩⟩
      exact ⟨_, _, rfl, Int.emod_nonneg _ (by decide), rfl⟩
    · rintro σ H3 ⟨y1, st, rfl, h0, rfl⟩
      refine ⟨_, rfl, D, rfl, ⟨_, .inl (.inl h2)⟩, fun D2 hD2 => ?_⟩
      refine map_lst (T := T) (K := K) (e := PyData.int) (as := cs) (.inl (.inl h2)) (dpa_of_ints _) (fun x => if decide ((10 : Int) ^ 18 ≤ x) then some (.int x) else none) (by omega) hD2 ?_ ?_
      · intro x y H' E N _ e hy g1 g2
        have := hy.at_int
        subst this
        refine ⟨rfl, _, rfl, 10, 18, rfl, rfl, ⟨by decide, by decide, by decide⟩, x, _, rfl, rfl, _, rfl, ?_⟩
        rw [show ((10 : Int) ^ (18 : Int).toNat) = 10 ^ 18 from rfl]
        refine if_dec (fun z => ?_) fun z => ?_
        · exact ⟨_, rfl, g2 _ (if_pos (decide_eq_true z)) _ H' (Ex.refl _) rfl (.int _)⟩
        · exact g1 (if_neg (by rw [decide_eq_false z]; decide)) H' (Ex.refl _)
      · intro ys H4 e4 h4 hy
        rw [fm_filter] at hy
        have hyi := dpa_ints hy
        subst hyi
        refine ⟨D2, _, rfl, .inl (.inl h4), fun p1 hp1 => ⟨_, rfl, sz_ok (n := 2) (by decide), fun p2 hp2 => ?_⟩⟩
        have e5 := (e12.trans e4).trans (Ex.new hp1 (o := .lst ((cs.filter fun x => decide ((10 : Int) ^ 18 ≤ x)).map V.int).reverse))
        refine q _ p2 p1 st ((cs.filter fun x => decide ((10 : Int) ^ 18 ≤ x)).reverse) (e5.trans (Ex.new hp2)) (ne_of_none upd_same hp2) (Fr.new e5 hp2) (Fr.new (e12.trans e4) hp1) upd_same ?_ h0 (fun x hx => hc0 x (List.mem_filter.mp (List.mem_reverse.mp hx)).1) ?_
        · rw [upd_ne (ne_of_none upd_same hp2), upd_same, List.map_reverse]
        · rw [List.length_reverse]; exact Nat.le_trans (List.length_filter_le _ _) (by omega)
theorem ok_heap (U : Txt K mg A D) : FnOk P w K mg base CX0 1 (A 41) (D 41) ["_law_script"] (spHeap T K) := view_heap (ok_heap0 U)
end
end K23
/-! P1: what _law_needed_right tells, in plain numbers. -/
namespace K23
open PySem PySem.Spec PyProof.Rows L2
theorem sum_le_len {ρ : Str → Int} {C : Int} : ∀ {ps : List (Fm Str)}, (∀ p ∈ ps, num ρ p ≤ C * (p.names.length : Int)) → (ps.map (num ρ)).sum ≤ C * ((namesL ps).length : Int)
  | [], _ => by simp [namesL]
  | p :: r, h => by
    have h1 := h p List.mem_cons_self
    have h2 := sum_le_len fun q hq => h q (List.mem_cons_of_mem _ hq)
    rw [List.map_cons, List.sum_cons]
    have e : (namesL (p :: r)).length = p.names.length + (namesL r).length := by rw [namesL_eq, namesL_eq, List.flatMap_cons, List.length_append]
    rw [e, Int.natCast_add, Int.mul_add]
    omega
theorem mem_le_sum : ∀ {l : List Int} {x : Int}, (∀ k ∈ l, 0 ≤ k) → x ∈ l → x ≤ l.sum
  | y :: r, x, h, hx => by
    rw [List.sum_cons]
    have a := h y List.mem_cons_self
    have b := sum_nonneg fun k hk => h k (List.mem_cons_of_mem _ hk)
    rcases List.mem_cons.mp hx with e | e
    · omega
    · have := mem_le_sum (fun k hk => h k (List.mem_cons_of_mem _ hk)) e
      omega
/-- no more pieces than the kinds' amounts together -/
theorem num_le {ρ : Str → Int} {C : Int} {f : Fm Str} : ∀ {B : Nat}, Wf B f → (∀ s ∈ f.names, 0 ≤ ρ s) → (∀ s ∈ f.names, ρ s ≤ C) → num ρ f ≤ C * (f.names.length : Int) := by
  induction f using Fm.ind with
  | hk s =>
    intro B wf h0 hC
    rw [num_kind, names_kind]
    have := hC s (by rw [names_kind]; exact List.mem_singleton.mpr rfl)
    simpa using this
  | hm n p ih =>
    intro B wf h0 hC
    rw [Wf.many] at wf
    rw [names_many] at h0 hC
    rw [num_many, names_many]
    exact Int.le_trans (Int.ediv_le_self _ (num_nonneg wf.2.2 h0)) (ih wf.2.2 h0 hC)
  | hn b ps ih =>
    intro B wf h0 hC
    rw [Wf.node] at wf
    have n0 : ∀ k ∈ ps.map (num ρ), 0 ≤ k := fun k hk => by
      obtain ⟨p, hp, rfl⟩ := List.mem_map.mp hk
      exact num_nonneg (wf.2 p hp) fun s hs => h0 s (mem_part hp hs)
    have all := sum_le_len (ρ := ρ) (C := C) (ps := ps) fun p hp => ih p hp (wf.2 p hp) (fun s hs => h0 s (mem_part hp hs)) fun s hs => hC s (mem_part hp hs)
    have e : (Fm.node b ps).names = namesL ps := by rw [Fm.names]
    rw [e]
    cases b with
    | false => rw [num_or]; exact all
    | true =>
      rw [num_and]
      have ne : ps.map (num ρ) ≠ [] := fun z => by
        have := congrArg List.length z
        rw [List.length_map] at this
        simp at this
        rw [this] at wf
        simp at wf
      exact Int.le_trans (mem_le_sum n0 (lmin_mem ne)) all
/-- the ways of a formula as rows over its kinds -/
structure WaysOf (f : Fm Str) (Ks : List Str) (V : List (List Int)) : Prop where
  ok : FmOk f
  tells : Tells (Way f) Ks V
  mem : ∀ s, s ∈ Ks ↔ s ∈ f.names
  nd : Ks.Nodup
section
variable {f : Fm Str} {Ks : List Str} {V : List (List Int)} {ρ : Str → Int}
theorem WaysOf.rows (W : WaysOf f Ks V) : Rows Ks.length V := fun v hv => by
  obtain ⟨w, _, rfl⟩ := (W.tells.2 v).mp hv
  exact List.length_map ..
theorem WaysOf.small (W : WaysOf f Ks V) : Small V := fun v hv x hx => by
  obtain ⟨w, hw, rfl⟩ := (W.tells.2 v).mp hv
  obtain ⟨s, hs, rfl⟩ := List.mem_map.mp hx
  have h1 := way_le_size W.ok.wf W.ok.nd ((W.mem s).mp hs) hw
  have h2 := (size_pos (name := s) W.ok.wf).2
  exact ⟨way_nonneg hw s, by omega⟩
theorem WaysOf.pos (W : WaysOf f Ks V) : 0 < V.length := by
  obtain ⟨w, hw⟩ := way_exists W.ok.wf
  exact List.length_pos_of_mem ((W.tells.2 _).mpr ⟨w, hw, rfl⟩)
theorem WaysOf.num (W : WaysOf f Ks V) (h0 : ∀ s ∈ f.names, 0 ≤ ρ s) (hC : ∀ s ∈ f.names, ρ s ≤ 10 ^ 29) : numV V (Ks.map ρ) = K23.num ρ f := by
  refine taken_is (L := []) W.ok.wf W.ok.nd (fun s => ?_) (fun v hv => ?_) (fun w hw => (W.tells.2 _).mpr ⟨w, hw, rfl⟩) (fun s hs => h0 s ((W.mem s).mp hs)) (endless_nil W.ok.wf) ?_
  · rw [W.mem s]
    exact ⟨fun h => ⟨h, fun z => nomatch z⟩, fun h => h.1⟩
  · obtain ⟨w, hw, rfl⟩ := (W.tells.2 v).mp hv
    exact ⟨w, hw, rfl⟩
  · have := num_le (C := 10 ^ 29) W.ok.wf h0 hC
    have := W.ok.few
    omega
theorem map_set {s : Str} {x : Int} : ∀ {Ks : List Str} {i : Nat}, Ks.Nodup → Ks[i]? = some s → (Ks.map ρ).set i x = Ks.map (put ρ s x)
  | k :: r, 0, nd, h => by
    obtain ⟨n1, _⟩ := List.nodup_cons.mp nd
    have e : k = s := Option.some.inj h
    subst e
    rw [List.map_cons, List.map_cons, List.set_cons_zero, put_same]
    congr 1
    exact List.map_congr_left fun y hy => (put_ne fun z => n1 (by rw [← z]; exact hy)).symm
  | k :: r, i + 1, nd, h => by
    obtain ⟨n1, n2⟩ := List.nodup_cons.mp nd
    have hm : s ∈ r := List.mem_of_getElem? (i := i) (by simpa using h)
    rw [List.map_cons, List.map_cons, List.set_cons_succ, map_set n2 (by simpa using h), put_ne fun z => n1 (by rw [z]; exact hm)]
theorem WaysOf.top (W : WaysOf f Ks V) {i : Nat} {s : Str} (hi : Ks[i]? = some s) : topAt V (i : Int) (size s f) := by
  have hs : s ∈ f.names := (W.mem s).mp (List.mem_of_getElem? hi)
  have at_ : ∀ w : Str → Int, (Ks.map w).getD i 0 = w s := fun w => by
    rw [List.getD_eq_getElem?_getD, List.getElem?_map, hi]; rfl
  refine ⟨?_, fun y hy => ?_⟩
  · obtain ⟨w, hw, e⟩ := way_size W.ok.wf W.ok.nd hs
    refine List.mem_map.mpr ⟨Ks.map w, (W.tells.2 _).mpr ⟨w, hw, rfl⟩, ?_⟩
    rw [Int.toNat_natCast, at_, e]
  · obtain ⟨v, hv, rfl⟩ := List.mem_map.mp hy
    obtain ⟨w, hw, rfl⟩ := (W.tells.2 v).mp hv
    rw [Int.toNat_natCast, at_]
    exact way_le_size W.ok.wf W.ok.nd hs hw
end
end K23
/-! P2: needed is the least amount; shorts. -/
namespace K23
open PySem PySem.Spec PyProof.Rows L2
section
variable {f : Fm Str} {Ks : List Str} {V : List (List Int)} {ρ : Str → Int} {s : Str} {i : Nat}
theorem need_zero (ok : FmOk f) (hs : s ∈ f.names) (h0 : ∀ s ∈ f.names, 0 ≤ ρ s) : need ρ s f 0 = some 0 := by
  have nn : 0 ≤ num (put ρ s 0) f := num_nonneg ok.wf fun y hy => by
    by_cases e : y = s
    · rw [e, put_same]; exact Int.le_refl _
    · rw [put_ne e]; exact h0 y hy
  obtain ⟨t, e, ht⟩ := (target_iff ok.wf ok.nd hs 0 0).mp nn
  unfold need
  rw [e]
  show some (if 0 < t then t else 0) = some 0
  rw [if_neg (by omega)]
theorem need_put {x m : Int} : need (put ρ s x) s f m = need ρ s f m := by
  unfold need
  rw [target_own (B := 12)]
theorem put_ok {x : Int} (h0 : ∀ s ∈ f.names, 0 ≤ ρ s) (hC : ∀ s ∈ f.names, ρ s ≤ 10 ^ 29) (hx : 0 ≤ x) (hx2 : x ≤ 10 ^ 29) : (∀ y ∈ f.names, 0 ≤ put ρ s x y) ∧ ∀ y ∈ f.names, put ρ s x y ≤ 10 ^ 29 := by
  refine ⟨fun y hy => ?_, fun y hy => ?_⟩
  · by_cases e : y = s
    · rw [e, put_same]; exact hx
    · rw [put_ne e]; exact h0 y hy
  · by_cases e : y = s
    · rw [e, put_same]; exact hx2
    · rw [put_ne e]; exact hC y hy
theorem WaysOf.put_num (W : WaysOf f Ks V) (hi : Ks[i]? = some s) {x : Int} (h0 : ∀ s ∈ f.names, 0 ≤ ρ s) (hC : ∀ s ∈ f.names, ρ s ≤ 10 ^ 29) (hx : 0 ≤ x) (hx2 : x ≤ 10 ^ 29) : numV V ((Ks.map ρ).set i x) = K23.num (put ρ s x) f := by
  rw [map_set W.nd hi]
  obtain ⟨a, b⟩ := put_ok (s := s) h0 hC hx hx2
  exact W.num a b
theorem target_le_big (W : WaysOf f Ks V) (hs : s ∈ f.names) (h0 : ∀ s ∈ f.names, 0 ≤ ρ s) {m t : Int} (hm : 0 ≤ m) (h : target ρ s f m = some t) : t ≤ 12 * m := by
  have h1 := target_le W.ok.wf W.ok.nd hs h0 h
  have h2 := (size_pos (name := s) W.ok.wf).2
  exact Int.le_trans h1 (Int.mul_le_mul_of_nonneg_right (by omega) hm)
/-- what needed tells is the least amount -/
theorem least_true (W : WaysOf f Ks V) (hi : Ks[i]? = some s) (h0 : ∀ s ∈ f.names, 0 ≤ ρ s) (hC : ∀ s ∈ f.names, ρ s ≤ 10 ^ 29) {m : Int} (hm : 0 ≤ m) (hm2 : m ≤ 10 ^ 27) : leastB V (Ks.map ρ) i m (need ρ s f m) (size s f) = true := by
  have hs : s ∈ f.names := (W.mem s).mp (List.mem_of_getElem? hi)
  have iff := fun x => target_iff (ρ := ρ) W.ok.wf W.ok.nd hs m x
  obtain ⟨z1, z2⟩ := size_pos (name := s) W.ok.wf
  have sm1 : 0 ≤ size s f * m := Int.mul_nonneg (by omega) hm
  have sm2 : size s f * m ≤ 12 * m := Int.mul_le_mul_of_nonneg_right (by omega) hm
  unfold need
  cases ht : target ρ s f m with
  | none =>
    show decide (numV V ((Ks.map ρ).set i (size s f * m)) < m) = true
    rw [W.put_num hi h0 hC sm1 (by omega)]
    refine decide_eq_true (Int.not_le.mp fun h => ?_)
    obtain ⟨t, e, _⟩ := (iff _).mp h
    rw [ht] at e
    cases e
  | some t =>
    have tb := target_le_big W hs h0 hm ht
    have key : ∀ y : Int, 0 ≤ y → y ≤ 10 ^ 29 → (numV V ((Ks.map ρ).set i y) < m ↔ y < t) := fun y hy hy2 => by
      rw [W.put_num hi h0 hC hy hy2, ← Int.not_le, iff y, ht]
      constructor
      · intro h
        exact Int.not_le.mp fun z => h ⟨t, rfl, z⟩
      · rintro h ⟨u, e, hu⟩
        cases e
        omega
    show leastB V (Ks.map ρ) i m (some (if 0 < t then t else 0)) (size s f) = true
    by_cases hp : 0 < t
    · rw [if_pos hp]
      show (if t < 0 ∨ numV V ((Ks.map ρ).set i t) < m then false else decide (t = 0) || decide (numV V ((Ks.map ρ).set i (t - 1)) < m)) = true
      rw [if_neg (by rw [key t (by omega) (by omega)]; omega), Bool.or_eq_true]
      exact .inr (decide_eq_true ((key (t - 1) (by omega) (by omega)).mpr (by omega)))
    · rw [if_neg hp]
      show (if (0 : Int) < 0 ∨ numV V ((Ks.map ρ).set i 0) < m then false else decide ((0 : Int) = 0) || decide (numV V ((Ks.map ρ).set i (0 - 1)) < m)) = true
      rw [if_neg (by rw [key 0 (by omega) (by omega)]; omega), Bool.or_eq_true]
      exact .inl (decide_eq_true rfl)
/-- one piece more than now -/
theorem next_pos (W : WaysOf f Ks V) (hs : s ∈ f.names) (h0 : ∀ s ∈ f.names, 0 ≤ ρ s) {t : Int} (ht : target ρ s f (num ρ f + 1) = some t) : 0 < t := by
  refine Int.not_le.mp fun z => ?_
  have h1 := (target_iff (ρ := ρ) W.ok.wf W.ok.nd hs (num ρ f + 1) (ρ s)).mpr ⟨t, ht, Int.le_trans z (h0 s hs)⟩
  have e : num (put ρ s (ρ s)) f = num ρ f := num_congr fun y _ => by
    by_cases q : y = s
    · rw [q, put_same]
    · rw [put_ne q]
  omega
/-- two pieces more cost one size more than one -/
theorem need_next (W : WaysOf f Ks V) (hs : s ∈ f.names) (h0 : ∀ s ∈ f.names, 0 ≤ ρ s) {a b : Int} (h1 : need ρ s f (num ρ f + 1) = some a) (h2 : need ρ s f (num ρ f + 2) = some b) : b - a = size s f := by
  unfold need at h1 h2
  cases e1 : target ρ s f (num ρ f + 1) with
  | none => rw [e1] at h1; cases h1
  | some t =>
    cases e2 : target ρ s f (num ρ f + 2) with
    | none => rw [e2] at h2; cases h2
    | some u =>
      rw [e1] at h1
      rw [e2] at h2
      have p := next_pos W hs h0 e1
      have q := target_next (k := 1) W.ok.wf W.ok.nd hs e1 (by rw [show num ρ f + 1 + 1 = num ρ f + 2 by omega]; exact e2)
      have z := (size_pos (name := s) W.ok.wf).1
      have h1 : some (if 0 < t then t else 0) = some a := h1
      have h2 : some (if 0 < u then u else 0) = some b := h2
      rw [if_pos p] at h1
      rw [if_pos (by omega)] at h2
      have := Option.some.inj h1
      have := Option.some.inj h2
      omega
/-- short: one more piece can come of this kind -/
theorem short_iff (W : WaysOf f Ks V) (hi : Ks[i]? = some s) (h0 : ∀ s ∈ f.names, 0 ≤ ρ s) (hC : ∀ s ∈ f.names, ρ s ≤ 10 ^ 20) : numV V ((Ks.map ρ).set i (size s f * (num ρ f + 1))) > num ρ f ↔ (target ρ s f (num ρ f + 1)).isSome = true := by
  have hs : s ∈ f.names := (W.mem s).mp (List.mem_of_getElem? hi)
  have nb := num_le (C := 10 ^ 20) W.ok.wf h0 hC
  have few := W.ok.few
  have nn := num_nonneg W.ok.wf h0
  obtain ⟨z1, z2⟩ := size_pos (name := s) W.ok.wf
  have sm1 : 0 ≤ size s f * (num ρ f + 1) := Int.mul_nonneg (by omega) (by omega)
  have sm2 : size s f * (num ρ f + 1) ≤ 12 * (num ρ f + 1) := Int.mul_le_mul_of_nonneg_right (by omega) (by omega)
  rw [W.put_num hi h0 (fun y hy => Int.le_trans (hC y hy) (by decide)) sm1 (by omega)]
  constructor
  · intro h
    obtain ⟨t, e, _⟩ := (target_iff (ρ := ρ) W.ok.wf W.ok.nd hs (num ρ f + 1) (size s f * (num ρ f + 1))).mp (by omega)
    rw [e]
    rfl
  · intro h
    obtain ⟨t, e⟩ := Option.isSome_iff_exists.mp h
    have := (target_iff (ρ := ρ) W.ok.wf W.ok.nd hs (num ρ f + 1) (size s f * (num ρ f + 1))).mpr ⟨t, e, target_le W.ok.wf W.ok.nd hs h0 e⟩
    omega
end
end K23
/-! V10: _law_needed_right. -/
namespace K23
open PySem PySem.Spec PyProof.Rows L2
theorem pool_map {ns : List Str} {ρ : Str → Int} : (ns.map fun s => V.int (ρ s)) = (ns.map ρ).map V.int := by rw [List.map_map]; rfl
/-- what the law's three judges are asked about -/
structure Asked (K : PySem.W.Frag) (H : Hp) (v : V) (k wa pa : Addr) (f : Fm Str) (Ks : List Str) (xs : List V) (V' : List (List Int)) (ρ : Str → Int) : Prop where
  hv : Dp K H v (enc f)
  dep : depth f < 24
  hk : SqT K H k (Ks.map V.str)
  hw : SqL K H wa xs
  hxs : DpAll K H xs (V'.map tupI)
  hp : SqT K H pa ((Ks.map ρ).map V.int)
  W : WaysOf f Ks V'
  ks : Ks = sortN f.names
  five : f.names.length ≤ 5
  few : V'.length ≤ 1000
  h0 : ∀ s ∈ f.names, 0 ≤ ρ s ∧ ρ s ≤ 10 ^ 18
section
variable {T : Tl} {P : Program} {w : World} {K : PySem.W.Frag} {mg : Str → Option Value} {base : Heap} {A : Nat → Addr} {D : Nat → FuncData}
theorem Asked.ex {H H' : Hp} {v : V} {k wa pa : Addr} {f : Fm Str} {Ks : List Str} {xs : List V} {V' : List (List Int)} {ρ : Str → Int} (a : Asked K H v k wa pa f Ks xs V' ρ) (e : Ex T H H') : Asked K H' v k wa pa f Ks xs V' ρ :=
  ⟨e.dp a.hv, a.dep, e.st a.hk, e.sl a.hw, e.dpa a.hxs, e.st a.hp, a.W, a.ks, a.five, a.few, a.h0⟩
theorem Asked.len {H : Hp} {v : V} {k wa pa : Addr} {f : Fm Str} {Ks : List Str} {xs : List V} {V' : List (List Int)} {ρ : Str → Int} (a : Asked K H v k wa pa f Ks xs V' ρ) : Ks.length ≤ 5 := by
  rw [a.ks, sortN_len]; exact a.five
theorem Asked.pool {H : Hp} {v : V} {k wa pa : Addr} {f : Fm Str} {Ks : List Str} {xs : List V} {V' : List (List Int)} {ρ : Str → Int} (a : Asked K H v k wa pa f Ks xs V' ρ) : PoolAt K H pa f.names ρ :=
  ⟨by rw [pool_map, ← a.ks]; exact a.hp, a.h0⟩
def spNR (T : Tl) (K : PySem.W.Frag) : Sp := fun vs H Q _ => ∃ (h k wa pa : Addr) (v : V) (f : Fm Str) (Ks : List Str) (xs : List V) (V' : List (List Int)) (ρ : Str → Int), vs = [.ref h, v, .ref k, .ref wa, .ref pa] ∧ Dh H h ∧ Asked K H v k wa pa f Ks xs V' ρ ∧ ∀ H', Ex T H H' → Q (.bl true) H'
theorem seq_cps {t r : TS} {D : Ends} {σ : L2.St} {H : Hp} (Pst : L2.St → Hp → Prop) (hrest : ∀ σ' H', Pst σ' H' → r D σ' H') (h : ∀ N : L2.St → Hp → Prop, (∀ σ' H', Pst σ' H' → N σ' H') → t { D with nx := N } σ H) : tSeq t r D σ H := h _ hrest
theorem ok_needed_right (U : Txt K mg A D) : FnG P w K mg base 60 (A 55) (D 55) ["_law_heap_here", "_law_formula_here", "_law_kinds", "_law_ways_here", "_law_pool"] (spNR T K) := by
  have G_l_number : FnOk P w K mg base CX0 2 (A 51) (D 51) ["_law_ways_here", "_law_pool"] (spNumV T K) := ok_number U
  have G_l_with : FnOk P w K mg base CX0 1 (A 52) (D 52) ["_law_pool", "_law_at", "_law_amount_here"] (spWith T K) := ok_with U
  have G_l_is_least : FnOk P w K mg base CX0 3 (A 54) (D 54) ["_law_ways_here", "_law_pool", "_law_at", "_law_many", "_law_told"] (spLeast T K) := ok_is_least U
  have G_needed : FnOk P w K mg base CX0 49 (A 26) (D 26) ["formula", "pool", "kind", "many"] (spNeed T K) := ok_needed U
  have G_short_kinds : FnOk P w K mg base CX0 49 (A 27) (D 27) ["formula", "pool"] (spShort T K) := ok_short_kinds U
  have G_l_draw := ok_draw (T := T) (P := P) (w := w) (base := base) U
  have G_l_pick := ok_pick (T := T) (P := P) (w := w) (base := base) U
  have G_l_amount := ok_amount (T := T) (P := P) (w := w) (base := base) U
  refine okG (F_l_needed_right U) sc_l_needed_right (fun vs H Q E h => by obtain ⟨_, _, _, _, _, _, _, _, _, _, rfl, _⟩ := h; rfl) (fun cdv A' outer s H vs Q E hr hG h => ?_)
  obtain ⟨h, k, wa, pa, v, f, Ks, xs, V', ρ, rfl, hh, as, q⟩ := h
  refine ⟨_, PSs.nox (pss_cons
      (ps_par (i := 5) (j := 6) rfl sc_l_needed_right.nd rfl rfl  (by decide)  rfl rfl  (pa_cons (pe_f G_l_number hr (by omega) (g_l_number U) (F_l_number U).kp (b_l_number U) (pa_cons (pv 3) (pa_cons (pv 4) pa_nil))) (pa_cons (pe_lst pa_nil) pa_nil)) (by kernel_rfl))
      (pss_cons
      (ps_for PassesOwn.never rfl (pi_range1 (by rfl) (z_range U) (pa_cons (pe_callB (kc_len K) (by rfl) (z_len U) boot_len (pa_cons (pv 2) pa_nil)) pa_nil)) (pg_name (i := 7) sc_l_needed_right.nd rfl (.inr rfl))
       (pss_cons
       (ps_par (i := 8) (j := 9) rfl sc_l_needed_right.nd rfl rfl  (by decide)  rfl rfl  (pa_cons (pe_callB (kc_max K) (by rfl) (z_max U) boot_max (pa_cons (pe_lc (g := gName 13) (tt := tYes) rfl sc_l_needed_right.nd (ki_list K (pv 3)) (blkOk_by (N := N_l_needed_right) (own := [("_law_way", 13)]) (by kernel_rfl)) (fun _ _ _ _ _ => (pg_name (i := 13) sc_l_needed_right.nd rfl (.inl rfl))) (fun _ _ _ _ _ => pts_nil) (fun _ _ _ _ _ => (pe_ix (kx_tup K) (pv 13) (pv 7) (fun _ _ => rfl)))) pa_nil)) (pa_cons pe_non pa_nil)) (by kernel_rfl))
       (pss_cons
       (ps_for PassesOwn.never rfl (ki_list K (pe_lst (pa_cons (pv 5) (pa_cons (pe_op op_add (pv 5) pe_int) (pa_cons (pe_op op_add (pv 5) pe_int) (pa_cons (pe_f G_l_draw hr (by omega) (g_l_draw U) (F_l_draw U).kp (b_l_draw U) (pa_cons (pv 0) (pa_cons pe_int pa_nil))) (pa_cons (pe_op op_add (pv 5) (pe_f G_l_pick hr (by omega) (g_l_pick U) (F_l_pick U).kp (b_l_pick U) (pa_cons (pv 0) (pa_cons (pe_lst (pa_cons (pe_op op_pow pe_int pe_int) (pa_cons (pe_f G_l_draw hr (by omega) (g_l_draw U) (F_l_draw U).kp (b_l_draw U) (pa_cons (pv 0) (pa_cons (pe_op op_pow pe_int pe_int) pa_nil))) pa_nil))) pa_nil)))) pa_nil))))))) (pg_name (i := 10) sc_l_needed_right.nd rfl (.inl rfl))
        (pss_cons
        (ps_set (i := 11) sc_l_needed_right.nd rfl (.inl rfl) (pe_f G_needed hr (by omega) (g_needed U) (F_needed U).kp (b_needed U) (pa_cons (pv 1) (pa_cons (pv 4) (pa_cons (pe_ix (kx_tup K) (pv 2) (pv 7) (fun _ _ => rfl)) (pa_cons (pv 10) pa_nil))))))
        (pss_cons
        (ps_if (pt_not (pt_val (pe_f G_l_is_least hr (by omega) (g_l_is_least U) (F_l_is_least U).kp (b_l_is_least U) (pa_cons (pv 3) (pa_cons (pv 4) (pa_cons (pv 7) (pa_cons (pv 10) (pa_cons (pv 11) pa_nil))))))))
         (pss_one
         (ps_ret pe_bl))
         pss_nil)
        (pss_cons
        (ps_if (PW.pt (pw_and (pt_cmpR op_eq (pv 10) (pe_op op_add (pv 5) pe_int) (nomark _)) (pw_and (pt_cmpR op_notN (pv 9) pe_non (nomark _)) (pw_and (pt_cmpR op_notN (pv 11) pe_non (nomark _)) (pw_and1 (pt_cmpR op_ne (pe_op op_sub (pv 11) (pv 9)) (pv 8) (nomark _)))))))
         (pss_one
         (ps_ret pe_bl))
         pss_nil)
        (pss_one
        (ps_set (i := 9) sc_l_needed_right.nd rfl (.inl rfl) (pe_ifExp (pt_cmpR op_eq (pv 10) (pe_op op_add (pv 5) pe_int) (nomark _)) (pv 11) (pv 9))))))))
       (pss_cons
       (ps_if (pt_cmpR op_gt (pe_f G_l_number hr (by omega) (g_l_number U) (F_l_number U).kp (b_l_number U) (pa_cons (pv 3) (pa_cons (pe_f G_l_with hr (by omega) (g_l_with U) (F_l_with U).kp (b_l_with U) (pa_cons (pv 4) (pa_cons (pv 7) (pa_cons (pe_op op_mul (pv 8) (pe_op op_add (pv 5) pe_int)) pa_nil)))) pa_nil))) (pv 5) (nomark _))
        (pss_one
        (ps_expr (kb_m K PySem.F.plainAttrs_list PySem.F.slot_list_append PySem.F.type_list_append mt_append (pv 6) (pa_cons (pe_ix (kx_tup K) (pv 2) (pv 7) (fun _ _ => rfl)) pa_nil))))
        pss_nil)
       (pss_cons
       (ps_set (i := 12) sc_l_needed_right.nd rfl (.inl rfl) (pe_f G_l_with hr (by omega) (g_l_with U) (F_l_with U).kp (b_l_with U) (pa_cons (pv 4) (pa_cons (pv 7) (pa_cons (pe_f G_l_amount hr (by omega) (g_l_amount U) (F_l_amount U).kp (b_l_amount U) (pa_cons (pv 0) pa_nil)) pa_nil)))))
       (pss_cons
       (ps_if (pt_cmpR op_ne (pe_fk G_needed hr (by omega) (g_needed U) (F_needed U).kp (kb_needed U) (pk_cons (pv 5) (pk_cons (pe_ix (kx_tup K) (pv 2) (pv 7) (fun _ _ => rfl)) (pk_cons (pv 12) (pk_cons (pv 1) pk_nil))))) (pe_f G_needed hr (by omega) (g_needed U) (F_needed U).kp (b_needed U) (pa_cons (pv 1) (pa_cons (pv 4) (pa_cons (pe_ix (kx_tup K) (pv 2) (pv 7) (fun _ _ => rfl)) (pa_cons (pv 5) pa_nil))))) (nomark _))
        (pss_one
        (ps_ret pe_bl))
        pss_nil)
       (pss_one
       (ps_if (pt_cmpR op_ne (pe_f G_needed hr (by omega) (g_needed U) (F_needed U).kp (b_needed U) (pa_cons (pv 1) (pa_cons (pv 4) (pa_cons (pe_ix (kx_tup K) (pv 2) (pv 7) (fun _ _ => rfl)) (pa_cons pe_int pa_nil))))) pe_int (nomark _))
        (pss_one
        (ps_ret pe_bl))
        pss_nil))))))))
      (pss_one
      (ps_ret (pe_and (pe_cmpR op_eq (pe_callB (kc_repr K hG hr.units) (by rfl) (z_repr U) boot_repr (pa_cons (pe_f G_short_kinds hr (by omega) (g_short_kinds U) (F_short_kinds U).kp (b_short_kinds U) (pa_cons (pv 1) (pa_cons (pv 4) pa_nil))) pa_nil)) (pe_callB (kc_repr K hG hr.units) (by rfl) (z_repr U) boot_repr (pa_cons (pe_callTy (kc_tuple K) (by rfl) (z_tuple U) boot_tuple (pa_cons (pv 6) pa_nil)) pa_nil)) (nomark _)) (pe_one (pe_cmpR (ko_eqD K hr.units) (pe_fk G_short_kinds hr (by omega) (g_short_kinds U) (F_short_kinds U).kp (kb_short_kinds U) (pk_cons (pv 4) (pk_cons (pv 1) pk_nil))) (pe_callTy (kc_tuple K) (by rfl) (z_tuple U) boot_tuple (pa_cons (pv 6) pa_nil)) (nomark _)))))))), ?_⟩
  have hl5 := as.len
  have hR : Rows (Ks.map ρ).length V' := by rw [List.length_map]; exact as.W.rows
  have hN8 : (Ks.map ρ).length ≤ 8 := by rw [List.length_map]; omega
  have g0 : ∀ s ∈ f.names, 0 ≤ ρ s := fun s hs => (as.h0 s hs).1
  have g1 : ∀ s ∈ f.names, ρ s ≤ 10 ^ 18 := fun s hs => (as.h0 s hs).2
  have g2 : ∀ s ∈ f.names, ρ s ≤ 10 ^ 29 := fun s hs => Int.le_trans (g1 s hs) (by decide)
  have nn := num_nonneg as.W.ok.wf g0
  have nb := num_le (C := 10 ^ 18) as.W.ok.wf g0 g1
  have few8 := as.W.ok.few
  have enum : numV V' (Ks.map ρ) = num ρ f := as.W.num g0 g2
  have hxl : xs.length = V'.length := by rw [dpa_len as.hxs, List.length_map]
  refine ⟨_, rfl, _, rfl, wa, pa, xs, V', _, rfl, as.hw, as.hxs, as.hp, hR, as.W.small, hN8, as.few, fun H1 e1 => ?_⟩
  rw [enum]
  refine ⟨sz_ok (n := 0) (by decide), fun sl hsl => ⟨_, _, rfl, ?_⟩⟩
  have e2 : Ex T H (upd H1 sl (.lst [])) := e1.trans (Ex.new hsl)
  have fsl : Fr H sl := Fr.new e1 hsl
  refine ⟨_, rfl, k, _, rfl, .inr (e2.st as.hk), _, rfl, by rw [List.length_map]; omega, by rw [List.length_map]; omega, ?_⟩
  rw [show ((Ks.map V.str).length : Int).toNat = Ks.length by rw [List.length_map, Int.toNat_natCast]]
  let sh : Nat → List Str := fun i => (Ks.take i).filter fun s => (target ρ s f (num ρ f + 1)).isSome
  refine for_it walk_range (fun i σ H' => ∃ y7 y8 y9 y10 y11 y12 : Option V, σ = [some (.ref h), some v, some (.ref k), some (.ref wa), some (.ref pa), some (.int (num ρ f)), some (.ref sl), y7, y8, y9, y10, y11, y12, none] ∧ Ex T H H' ∧ H' sl = some (.lst ((sh i).map V.str))) ?_ (fun _ _ _ _ _ => trivial) ?_ ?_
  · exact ⟨none, none, none, none, none, none, rfl, e2, upd_same⟩
  · rintro i x σ H3 H4 hi ⟨y7, y8, y9, y10, y11, y12, rfl, e3, hsh⟩ ⟨rfl, hx⟩
    obtain rfl : x = .int (i : Int) := hx.trans (by show V.int (0 + (i : Int)) = _; rw [Int.zero_add])
    obtain ⟨s, hks⟩ : ∃ s, Ks[i]? = some s := ⟨Ks[i], List.getElem?_eq_getElem hi⟩
    have hs : s ∈ f.names := (as.W.mem s).mp (List.mem_of_getElem? hks)
    have hip : i < (Ks.map ρ).length := by rw [List.length_map]; exact hi
    have ts := as.W.top hks
    have hkat : atI (Ks.map V.str) (i : Int) = some (.str s) := atI_nat (by rw [List.getElem?_map, hks]; rfl)
    refine ⟨_, rfl, wa, rfl, ⟨xs, e3.sl as.hw⟩, fun D hD => ?_⟩
    refine map_lst (T := T) (e3.sl as.hw) (e3.dpa as.hxs) (fun v => some (.int (v.getD i 0))) (by have := as.few; omega) hD ?_ ?_
    · intro v y H' E N hv e hy _ hE
      obtain ⟨la, rfl, hla⟩ := Dp.tup_ints hy
      exact ⟨rfl, _, rfl, _, rfl, la, _, (i : Int), _, rfl, rfl, hla, int_at (by rw [hR v hv]; exact hip), hE _ rfl _ H' (Ex.refl _) rfl (.int _)⟩
    intro ys H5 e5 h5 hy
    rw [fm_some, show (V'.map fun v => PyData.int (v.getD i 0)) = (V'.map fun v => v.getD i 0).map .int by rw [List.map_map]; rfl] at hy
    have := dpa_ints hy
    subst this
    refine ⟨D, _, rfl, .inl (.inl h5), by rw [List.length_map]; exact as.W.pos, fun top t1 t2 => ?_⟩
    obtain rfl : top = size s f := Int.le_antisymm (ts.2 _ t1) (t2 _ ts.1)
    refine ⟨_, _, rfl, ?_⟩
    have e35 := e3.trans e5
    have hsh5 := e5.lst hsh
    refine ⟨_, rfl, _, rfl, _, 1, rfl, rfl, _, rfl, _, 2, rfl, rfl, _, rfl, h, 9, rfl, hh.ex e35, by decide, by decide, fun H6 d e6 d0 d1 => ?_⟩
    refine ⟨_, rfl, _, rfl, 10, 18, rfl, rfl, ⟨by decide, by decide, by decide⟩, _, rfl, 10, 9, rfl, rfl, ⟨by decide, by decide, by decide⟩, h, _, rfl, (hh.ex e35).ex e6, by decide, by decide, fun H7 d2 e7 d20 d21 => ?_⟩
    have d21 : d2 < 1000000000 := d21
    refine ⟨sz_ok (n := 2) (by decide), fun pl hpl => ?_⟩
    have e37 := (e35.trans (e6.trans e7)).trans (Ex.new hpl (o := .lst [.int (10 ^ 18), .int d2]))
    refine ⟨h, pl, [.int (10 ^ 18), .int d2], rfl, hh.ex e37, .inl (.inl (.inl upd_same)), Nat.zero_lt_succ _, Nat.le_trans (Nat.le_refl 2) (by decide), fun H8 x j e8 hx => ?_⟩
    obtain ⟨b, rfl, b0, b1⟩ : ∃ b : Int, x = .int b ∧ 0 ≤ b ∧ b ≤ 10 ^ 18 := by
      match j, hx with
      | 0, hx => exact ⟨10 ^ 18, (Option.some.inj hx).symm, by decide, by decide⟩
      | 1, hx => exact ⟨d2, (Option.some.inj hx).symm, d20, by omega⟩
    refine ⟨_, _, rfl, rfl, sz_ok (n := 5) (by decide), fun ml hml => ?_⟩
    have e38 := (e37.trans e8).trans (Ex.new hml (o := .lst [.int (num ρ f), .int (num ρ f + 1), .int (num ρ f + 2), .int d, .int (num ρ f + b)]))
    have hsh8 := ((((e6.trans e7).trans (Ex.new hpl (o := .lst [.int (10 ^ 18), .int d2]))).trans e8).trans (Ex.new hml (o := .lst [.int (num ρ f), .int (num ρ f + 1), .int (num ρ f + 2), .int d, .int (num ρ f + b)]))).lst hsh5
    refine ⟨ml, rfl, ⟨_, .inl (.inl upd_same)⟩, ?_⟩
    have numb : ∀ (j : Nat) (x : V), [V.int (num ρ f), .int (num ρ f + 1), .int (num ρ f + 2), .int d, .int (num ρ f + b)][j]? = some x → ∃ m : Int, x = .int m ∧ 0 ≤ m ∧ m ≤ 10 ^ 27 := by
      intro j x hx
      match j, hx with
      | 0, hx => exact ⟨_, (Option.some.inj hx).symm, nn, by omega⟩
      | 1, hx => exact ⟨_, (Option.some.inj hx).symm, by omega, by omega⟩
      | 2, hx => exact ⟨_, (Option.some.inj hx).symm, by omega, by omega⟩
      | 3, hx => exact ⟨_, (Option.some.inj hx).symm, d0, by omega⟩
      | 4, hx => exact ⟨_, (Option.some.inj hx).symm, by omega, by omega⟩
    refine for_it (walk_list (xs := [V.int (num ρ f), .int (num ρ f + 1), .int (num ρ f + 2), .int d, .int (num ρ f + b)])) (fun j σ H' => ∃ (bf : V) (z10 z11 z12 : Option V), σ = [some (.ref h), some v, some (.ref k), some (.ref wa), some (.ref pa), some (.int (num ρ f)), some (.ref sl), some (.int (i : Int)), some (.int (size s f)), some bf, z10, z11, z12, none] ∧
      (bf = .non ∨ bf = oV (need ρ s f (num ρ f + 1))) ∧ Ex T H H' ∧ H' sl = some (.lst ((sh i).map V.str)) ∧ H' ml = some (.lst [.int (num ρ f), .int (num ρ f + 1), .int (num ρ f + 2), .int d, .int (num ρ f + b)])) ?_ ?_ ?_ ?_
    · exact ⟨.non, y10, y11, y12, rfl, .inl rfl, e38, hsh8, upd_same⟩
    · rintro j σ H' _ ⟨_, _, _, _, _, _, _, _, e⟩; exact .inl (.inl e)
    · rintro j x σ H9 H10 hj ⟨bf, z10, z11, z12, rfl, hbf, e9, hsh9, hml9⟩ ⟨rfl, hx⟩
      obtain ⟨m, rfl, m0, m1⟩ := numb j x hx
      refine ⟨_, rfl, _, rfl, _, rfl, _, rfl, k, _, (i : Int), _, rfl, rfl, e9.st as.hk, hkat, _, rfl, v, f, pa, ρ, s, m, rfl, e9.dp as.hv, as.W.ok, as.dep, (as.ex e9).pool, hs, m0, fun H11 e11 => ?_⟩
      have e911 := e9.trans e11
      refine ⟨_, rfl, _, rfl, _, rfl, _, rfl, _, rfl, wa, pa, xs, V', _, i, m, need ρ s f m, rfl, e911.sl as.hw, e911.dpa as.hxs, e911.st as.hp, hR, as.W.small, hN8, as.few, as.W.pos, hip, fun H12 e12 top htop => ?_⟩
      obtain rfl : top = size s f := Int.le_antisymm (ts.2 _ htop.1) (htop.2 _ ts.1)
      rw [least_true as.W hks g0 g2 m0 m1]
      refine ⟨_, rfl, ?_⟩
      have e912 := e911.trans e12
      show (if (!true) = true then _ else _)
      rw [if_neg (by decide)]
      unfold tNext
      dsimp only
      change tSeq _ _ _ _ _
      delta tSeq
      refine ifS_cps (fun _ => False) (fun H1 => H1 = H12) (fun R _ h0 => ?_) (fun _ z => z.elim) (fun H1 z => ?_)
      · refine ⟨_, rfl, _, rfl, num ρ f, 2, rfl, rfl, rfl, _, rfl, ?_⟩
        rw [show decide (V.int m = V.int (num ρ f + 2)) = decide (m = num ρ f + 2) from decide_eq_decide.mpr ⟨fun y => V.int.inj y, fun y => by rw [y]⟩]
        refine if_dec (fun z2 => ?_) fun z2 => h0 _ rfl
        subst z2
        refine ⟨_, rfl, rfl, _, rfl, ?_⟩
        rcases hbf with rfl | rfl
        · exact h0 _ rfl
        cases hb : need ρ s f (num ρ f + 1) with
        | none => exact h0 _ rfl
        | some t1 =>
          refine ⟨_, rfl, rfl, _, rfl, ?_⟩
          cases hb2 : need ρ s f (num ρ f + 2) with
          | none => exact h0 _ rfl
          | some t2 =>
            have hd := need_next as.W hs g0 hb hb2
            refine ⟨_, rfl, _, rfl, t2, t1, rfl, rfl, _, rfl, rfl, _, rfl, ?_⟩
            show R (!decide (V.int (t2 - t1) = V.int (size s f))) H12
            rw [hd, decide_eq_true rfl]
            exact h0 _ rfl
      · cases z
        have hsh12 := (e11.trans e12).lst hsh9
        have hml12 := (e11.trans e12).lst hml9
        refine ⟨_, rfl, _, rfl, num ρ f, 1, rfl, rfl, rfl, _, rfl, ?_⟩
        rw [show decide (V.int m = V.int (num ρ f + 1)) = decide (m = num ρ f + 1) from decide_eq_decide.mpr ⟨fun y => V.int.inj y, fun y => by rw [y]⟩]
        refine if_dec (fun z2 => ?_) fun z2 => ?_
        · exact ⟨_, rfl, _, _, _, z12, rfl, .inr (by rw [z2]), e912, hsh12, hml12⟩
        · exact ⟨_, rfl, bf, _, _, z12, rfl, hbf, e912, hsh12, hml12⟩
    · rintro σ H9 ⟨bf, z10, z11, z12, rfl, hbf, e9, hsh9, hml9⟩
      have few12 := (size_pos (name := s) as.W.ok.wf)
      have iff := short_iff as.W hks g0 fun y hy => Int.le_trans (g1 y hy) (by decide)
      have shs : sh (i + 1) = (Ks.take i ++ [s]).filter fun s => (target ρ s f (num ρ f + 1)).isSome := by
        show (Ks.take (i + 1)).filter _ = _
        rw [List.take_succ, hks]
        rfl
      dsimp only
      change tSeq _ _ _ _ _
      refine seq_cps (fun σ' H' => σ' = [some (.ref h), some v, some (.ref k), some (.ref wa), some (.ref pa), some (.int (num ρ f)), some (.ref sl), some (.int (i : Int)), some (.int (size s f)), some bf, z10, z11, z12, none] ∧ Ex T H H' ∧ H' sl = some (.lst ((sh (i + 1)).map V.str))) ?_ (fun N hN => ?_)
      · rintro σ' H10 ⟨rfl, e10, hsh10⟩
        refine ⟨_, rfl, _, rfl, _, rfl, h, rfl, hh.ex e10, fun H11 am e11 am0 am1 => ?_⟩
        refine ⟨pa, _, i, am, rfl, (e10.trans e11).st as.hp, hip, hN8, fun H12 po e12 hpo => ?_⟩
        have e13 := (e10.trans e11).trans e12
        have hsh12 := (e11.trans e12).lst hsh10
        rw [map_set as.W.nd hks] at hpo
        have pool2 : PoolAt K H12 po f.names (put ρ s am) := ⟨by rw [pool_map, ← as.ks]; exact hpo, fun y hy => by
          by_cases c : y = s
          · rw [c, put_same]; exact ⟨am0, am1⟩
          · rw [put_ne c]; exact as.h0 y hy⟩
        refine ⟨_, rfl, _, rfl, _, rfl, k, _, (i : Int), _, rfl, rfl, e13.st as.hk, hkat, _, rfl, _, rfl, v, f, po, put ρ s am, s, num ρ f, rfl, e13.dp as.hv, as.W.ok, as.dep, pool2, hs, nn, fun H13 e14 => ?_⟩
        have e15 := e13.trans e14
        refine ⟨_, rfl, _, rfl, _, rfl, _, rfl, k, _, (i : Int), _, rfl, rfl, e15.st as.hk, hkat, _, rfl, v, f, pa, ρ, s, num ρ f, rfl, e15.dp as.hv, as.W.ok, as.dep, (as.ex e15).pool, hs, nn, fun H14 e16 => ?_⟩
        rw [need_put]
        have e17 := e15.trans e16
        refine ⟨by cases need ρ s f (num ρ f) <;> rfl, _, rfl, ?_⟩
        rw [decide_eq_true rfl]
        show (if (!true) = true then _ else _)
        rw [if_neg (by decide)]
        refine ⟨_, rfl, _, rfl, _, rfl, _, rfl, k, _, (i : Int), _, rfl, rfl, e17.st as.hk, hkat, v, f, pa, ρ, s, 0, rfl, e17.dp as.hv, as.W.ok, as.dep, (as.ex e17).pool, hs, Int.le_refl _, fun H15 e18 => ?_⟩
        rw [need_zero as.W.ok hs g0]
        refine ⟨rfl, _, rfl, ?_⟩
        rw [show decide (oV (some 0) = V.int 0) = true from decide_eq_true rfl]
        show (if (!true) = true then _ else _)
        rw [if_neg (by decide)]
        exact ⟨_, _, _, z10, z11, _, rfl, e17.trans e18, (((e14.trans e16).trans e18)).lst hsh12⟩
      refine ⟨_, rfl, _, rfl, _, rfl, _, rfl, _, rfl, num ρ f, 1, rfl, rfl, size s f, _, rfl, rfl, .inl ⟨by omega, by omega⟩, pa, _, i, _, rfl, e9.st as.hp, hip, hN8, fun H10 p10 e10 h10 => ?_⟩
      have e910 := e9.trans e10
      refine ⟨wa, p10, xs, V', _, rfl, e910.sl as.hw, e910.dpa as.hxs, h10, by rw [List.length_set]; exact hR, as.W.small, by rw [List.length_set]; exact hN8, as.few, fun H11 e11 => ?_⟩
      refine ⟨_, rfl, _, num ρ f, rfl, rfl, _, rfl, if_dec (fun z => ?_) fun z => ?_⟩
      · have hsh11 := (e10.trans e11).lst hsh9
        have some1 : (target ρ s f (num ρ f + 1)).isSome = true := iff.mp z
        have shl : (sh i).length ≤ 5 := Nat.le_trans (List.length_filter_le _ _) (by rw [List.length_take]; omega)
        refine ⟨_, rfl, .inl ⟨rfl, _, .inl (.inl hsh11)⟩, _, rfl, _, rfl, k, _, (i : Int), _, rfl, rfl, (e910.trans e11).st as.hk, hkat, sl, _, _, rfl, rfl, hsh11, by rw [List.length_map]; exact sz_lt (by omega), ?_⟩
        refine hN _ _ ⟨rfl, (e910.trans e11).lstF fsl hsh11, ?_⟩
        rw [upd_same, shs, List.filter_append, List.map_append]
        simp [some1, sh]
      · refine hN _ _ ⟨rfl, e910.trans e11, ?_⟩
        have no1 : ¬ (target ρ s f (num ρ f + 1)).isSome = true := fun y => z (iff.mpr y)
        rw [shs, List.filter_append]
        simp only [List.filter_cons, no1]
        simpa using (e10.trans e11).lst hsh9
  · rintro σ H3 ⟨y7, y8, y9, y10, y11, y12, rfl, e3, hsh⟩
    have shE : sh Ks.length = shorts ρ f := by
      show (Ks.take Ks.length).filter _ = _
      rw [List.take_length, as.ks]
      rfl
    rw [shE] at hsh
    have nms : ∀ y ∈ shorts ρ f, IsNm y := fun y hy => as.W.ok.nm y (mem_sortN.mp (List.mem_filter.mp hy).1)
    have fs : (shorts ρ f).length ≤ 8 := Nat.le_trans (List.length_filter_le _ _) (by rw [sortN_len]; exact few8)
    refine ⟨_, rfl, _, rfl, v, f, pa, ρ, rfl, e3.dp as.hv, as.W.ok, as.dep, (as.ex e3).pool, fun H4 p4 f4 e4 h4 => ?_⟩
    refine ⟨.ref p4, .tuple ((shorts ρ f).map .str), rfl, .tup (SqT.of h4) (dpa_of_strs _), .nms _ nms (by omega), ?_⟩
    refine ⟨_, rfl, sl, _, rfl, .inl ⟨.inl (.inl (e4.lst hsh)), fun t ht => ?_⟩⟩
    refine ⟨.ref t, .tuple ((shorts ρ f).map .str), rfl, Dp.new_strs, .nms _ nms (by omega), rfl, ?_⟩
    have e5 : Ex T H4 (upd H4 t (.tup ((shorts ρ f).map V.str))) := Ex.new ht
    refine ⟨_, rfl, ?_⟩
    rw [decide_eq_true rfl, if_pos rfl]
    refine ⟨_, rfl, _, rfl, v, f, pa, ρ, rfl, ((e3.trans e4).trans e5).dp as.hv, as.W.ok, as.dep, (as.ex ((e3.trans e4).trans e5)).pool, fun H6 p6 f6 e6 h6 => ?_⟩
    refine ⟨_, rfl, sl, _, rfl, .inl ⟨.inl (.inl (((e4.trans e5).trans e6).lst hsh)), fun t2 ht2 => ?_⟩⟩
    refine ⟨.tuple ((shorts ρ f).map .str), .tuple ((shorts ρ f).map .str), .tup (SqT.of ((Ex.new (T := T) ht2).tup h6)) (dpa_of_strs _), Dp.new_strs, shp_tup_strs fun s hs => (nms s hs).ok, shp_tup_strs fun s hs => (nms s hs).ok, ?_⟩
    rw [eqv_tstrs, decide_eq_true rfl]
    exact q _ ((((e3.trans e4).trans e5).trans e6).trans (Ex.new ht2))
end
end K23
/-! P3: lots: endless kinds, tight sides, cut formulas. -/
namespace K23
open PySem PySem.Spec PyProof.Rows L2
theorem sorted_eq {l k : List Str} (hl : l.Pairwise fun a b => leS a b = true) (hk : k.Pairwise fun a b => leS a b = true) (p : l.Perm k) : l = k :=
  List.Perm.eq_of_pairwise (fun a b _ _ h1 h2 => leS_antisymm h1 h2) hl hk p
theorem sortN_of {l : List Str} (hl : l.Pairwise fun a b => leS a b = true) : sortN l = l := sorted_eq (sortN_sorted l) hl (sortN_perm l)
/-- a row without the kinds of a lot -/
def cutV (Ks L : List Str) (v : List Int) : List Int := ((Ks.zip v).filter fun p => decide (p.1 ∉ L)).map (·.2)
theorem cutV_map (L : List Str) (w : Str → Int) : ∀ Ks : List Str, cutV Ks L (Ks.map w) = cutR Ks L w
  | [] => rfl
  | k :: r => by
    have ih := cutV_map L w r
    unfold cutV cutR at ih ⊢
    rw [List.map_cons, List.zip_cons_cons, List.filter_cons, List.filter_cons]
    by_cases h : k ∈ L
    · rw [if_neg (by simpa using h), if_neg (by simpa using h)]
      exact ih
    · rw [if_pos (by simpa using h), if_pos (by simpa using h), List.map_cons, List.map_cons, ih]
/-- the cut ways -/
structure CutsOf (f : Fm Str) (Ks L : List Str) (C : List (List Int)) : Prop where
  is : ∀ v ∈ C, ∃ w, Way f w ∧ v = cutR Ks L w
  all : ∀ w, Way f w → cutR Ks L w ∈ C
section
variable {f : Fm Str} {Ks L : List Str} {V C : List (List Int)} {ρ : Str → Int}
theorem WaysOf.cuts (W : WaysOf f Ks V) (h1 : ∀ c ∈ C, ∃ v ∈ V, c = cutV Ks L v) (h2 : ∀ v ∈ V, cutV Ks L v ∈ C) : CutsOf f Ks L C := by
  refine ⟨fun c hc => ?_, fun w hw => ?_⟩
  · obtain ⟨v, hv, rfl⟩ := h1 c hc
    obtain ⟨w, hw, rfl⟩ := (W.tells.2 v).mp hv
    exact ⟨w, hw, cutV_map L w Ks⟩
  · have := h2 _ ((W.tells.2 _).mpr ⟨w, hw, rfl⟩)
    rwa [cutV_map] at this
theorem left_mem (W : WaysOf f Ks V) (s : Str) : s ∈ (Ks.filter fun s => decide (s ∉ L)) ↔ s ∈ f.names ∧ s ∉ L := by
  rw [List.mem_filter, W.mem s]
  simp
theorem endless_le (ok : FmOk f) {M e : Int} (h0 : ∀ s ∈ f.names, 0 ≤ ρ s) (hC : ∀ s ∈ f.names, ρ s ≤ M) (hM : 0 ≤ M) (he : endless ρ L f = some e) : e ≤ M * 8 := by
  rw [cut_plenty ok.wf] at he
  cases hg : cut L false f with
  | none => rw [hg] at he; cases he
  | some g =>
    rw [hg] at he
    have e1 : num ρ g = e := Option.some.inj he
    obtain ⟨wg, sub, _⟩ := cut_wf ok.wf hg
    have h1 := num_le (C := M) wg (fun s hs => h0 s (sub.subset hs)) fun s hs => hC s (sub.subset hs)
    have h2 := sub.length_le
    have h3 := ok.few
    rw [← e1]
    refine Int.le_trans h1 (Int.mul_le_mul_of_nonneg_left (by omega) hM)
theorem CutsOf.num (W : WaysOf f Ks V) (Cs : CutsOf f Ks L C) (h0 : ∀ s ∈ f.names, 0 ≤ ρ s) (hC : ∀ s ∈ f.names, ρ s ≤ 10 ^ 29) {e : Int} (he : endless ρ L f = some e) : numV C (cutR Ks L ρ) = e := by
  refine taken_is (L := L) W.ok.wf W.ok.nd (left_mem W) Cs.is Cs.all (fun s hs => h0 s ((left_mem W s).mp hs).1) he ?_
  have := endless_le W.ok h0 hC (by decide) he
  omega
theorem CutsOf.free (W : WaysOf f Ks V) (Cs : CutsOf f Ks L C) {m : Int} (h1 : m ∈ C.map List.sum) (h2 : ∀ y ∈ C.map List.sum, m ≤ y) : m = 0 ↔ endless ρ L f = none := by
  constructor
  · intro e
    cases he : endless ρ L f with
    | none => rfl
    | some x =>
      obtain ⟨c, hc, e2⟩ := List.mem_map.mp h1
      obtain ⟨w, hw, rfl⟩ := Cs.is c hc
      obtain ⟨s, s1, s2, s3⟩ := no_free_way W.ok.wf W.ok.nd he hw
      have := mem_le_sum (l := cutR Ks L w) (x := w s) (fun k hk => by
        obtain ⟨y, _, rfl⟩ := List.mem_map.mp hk
        exact way_nonneg hw y) (List.mem_map.mpr ⟨s, (left_mem W s).mpr ⟨s1, s2⟩, rfl⟩)
      omega
  · intro he
    obtain ⟨w, hw, z⟩ := free_way W.ok.wf W.ok.nd he
    have e1 : (cutR Ks L w).sum = 0 := by
      have : cutR Ks L w = (Ks.filter fun s => decide (s ∉ L)).map fun _ => 0 := List.map_congr_left fun s hs => z s ((left_mem W s).mp hs).2
      rw [this]
      generalize (Ks.filter fun s => decide (s ∉ L)) = l
      induction l with
      | nil => rfl
      | cons _ _ ih => rw [List.map_cons, List.sum_cons, ih]; rfl
    have h3 := h2 _ (List.mem_map.mpr ⟨_, Cs.all w hw, rfl⟩)
    obtain ⟨c, hc, e2⟩ := List.mem_map.mp h1
    obtain ⟨u, hu, rfl⟩ := Cs.is c hc
    have := sum_nonneg (l := cutR Ks L u) fun k hk => by
      obtain ⟨y, _, rfl⟩ := List.mem_map.mp hk
      exact way_nonneg hu y
    omega
theorem CutsOf.pos (W : WaysOf f Ks V) (Cs : CutsOf f Ks L C) : 0 < C.length := by
  obtain ⟨w, hw⟩ := way_exists W.ok.wf
  exact List.length_pos_of_mem (Cs.all w hw)
theorem CutsOf.rows (Cs : CutsOf f Ks L C) : Rows (cutR Ks L ρ).length C := fun v hv => by
  obtain ⟨w, _, rfl⟩ := Cs.is v hv
  unfold cutR
  rw [List.length_map, List.length_map]
theorem CutsOf.small (W : WaysOf f Ks V) (Cs : CutsOf f Ks L C) : Small C := fun v hv x hx => by
  obtain ⟨w, hw, rfl⟩ := Cs.is v hv
  obtain ⟨s, hs, rfl⟩ := List.mem_map.mp hx
  have hm := ((left_mem W s).mp hs).1
  have h1 := way_le_size W.ok.wf W.ok.nd hm hw
  have h2 := (size_pos (name := s) W.ok.wf).2
  exact ⟨way_nonneg hw s, by omega⟩
theorem cutR_len : (cutR Ks L ρ).length ≤ Ks.length := by
  unfold cutR
  rw [List.length_map]
  exact List.length_filter_le ..
/-- more of the lot's kinds makes more exactly if each tight side has one of them -/
theorem tight_all (W : WaysOf f Ks V) {ts : List (List Str)} (p : ts.Perm ((sidesIn f).map sortN)) :
    ((endless ρ L f = none) ∨ ∃ e, endless ρ L f = some e ∧ K23.num ρ f < e) ↔ (tights ρ f ts).all (fun t => t.any fun s => decide (s ∈ L)) = true := by
  rw [tight_iff W.ok.wf W.ok.nd, List.all_eq_true]
  have same : ∀ S : List Str, sideNum ρ (sortN S) f = sideNum ρ S f := fun S => sideNum_congr fun s _ => mem_sortN
  constructor
  · intro h t ht
    obtain ⟨t1, t2⟩ := List.mem_filter.mp ht
    obtain ⟨S, hS, rfl⟩ := List.mem_map.mp (p.mem_iff.mp t1)
    rw [same] at t2
    obtain ⟨s, s1, s2⟩ := h S hS (by simpa using t2)
    exact List.any_eq_true.mpr ⟨s, mem_sortN.mpr s1, by simpa using s2⟩
  · intro h S hS e
    have := h (sortN S) (List.mem_filter.mpr ⟨p.mem_iff.mpr (List.mem_map.mpr ⟨S, hS, rfl⟩), by rw [same]; simpa using e⟩)
    obtain ⟨s, s1, s2⟩ := List.any_eq_true.mp this
    exact ⟨s, mem_sortN.mp s1, by simpa using s2⟩
/-- what is left of a formula, made normal -/
structure LeftOk (f : Fm Str) (Ks : List Str) (ρ : Str → Int) (g g' : Fm Str) : Prop where
  ok : FmOk g'
  dep : depth g' < 24
  nodes : nodes g' ≤ 40
  sub : ∀ s ∈ g'.names, s ∈ f.names
  num : K23.num ρ g' = K23.num ρ g
  pool : cutR Ks (idle Ks g') ρ = (sortN g'.names).map ρ
theorem left_ok (W : WaysOf f Ks V) (hk : Ks = sortN f.names) (five : f.names.length ≤ 5) {wb : Bool} {g : Fm Str} (hg : cut L wb f = some g) : LeftOk f Ks ρ g (normT g 1) := by
  obtain ⟨wg, sub, _⟩ := cut_wf W.ok.wf hg
  have N := normT_nrm (f := g) (B := 12) (m := 1) (by decide) (by decide) wg
  have gl := sub.length_le
  have nl : (normT g 1).names.length = g.names.length := N.perm.length_eq
  have few := N.few
  have hs : ∀ s ∈ (normT g 1).names, s ∈ f.names := fun s h => sub.subset (N.perm.mem_iff.mp h)
  have nd : (normT g 1).names.Nodup := N.perm.nodup_iff.mpr (sub.nodup W.ok.nd)
  have dn := depth_le_nodes (normT g 1)
  refine ⟨⟨N.wf, nd, by omega, fun s h => W.ok.nm s (hs s h)⟩, by omega, by omega, hs, ?_, ?_⟩
  · rw [N.val ρ]
    exact Int.ediv_one _
  · unfold cutR idle
    congr 1
    refine sorted_eq (List.Pairwise.filter _ (by rw [hk]; exact sortN_sorted _)) (sortN_sorted _) ?_
    refine (List.perm_ext_iff_of_nodup (List.Pairwise.filter _ W.nd) ((sortN_perm _).nodup_iff.mpr nd)).mpr fun s => ?_
    rw [List.mem_filter, mem_sortN]
    constructor
    · rintro ⟨h1, h2⟩
      by_cases c : s ∈ (normT g 1).names
      · exact c
      · exact absurd (List.mem_filter.mpr ⟨h1, decide_eq_true c⟩) (show ¬ s ∈ Ks.filter (fun s => decide (s ∉ (normT g 1).names)) from of_decide_eq_true h2)
    · intro c
      refine ⟨(W.mem s).mpr (hs s c), decide_eq_true fun z => ?_⟩
      have := (List.mem_filter.mp z).2
      simp [c] at this
end
end K23
set_option maxHeartbeats 4000000
/-! S9: sum and min of a tuple of ints; set and sorted of tuples of ints, the empty tuple too. -/
namespace K23
open PySem PySem.Spec PyProof.Rows L2
open PySem.W (AlikeAll minD dataLt dataLe alike alikeAll)
/-- sum(t) -/
def rSumT (K : PySem.W.Frag) : List V → Hp → VK → Prop := fun vs H Q => ∃ (a : Addr) (ns : List Int), vs = [V.ref a] ∧ SqT K H a (ns.map V.int) ∧ Q (.int ns.sum) H
theorem kc_sumT (K : PySem.W.Frag) {X : Cx} (hc : X.calm = true := by rfl) (h : X.K = K := by rfl) : CallR X (.builtin "sum") (rSumT K) := by
  cases h
  rintro pins s σ H vs us Q I r ⟨a, ns, rfl, hl, q⟩
  obtain ⟨its, rv, ht, _⟩ := I.tuple hl
  rw [Vals.ref1 r]
  have hi := rv.ints
  obtain ⟨xs, hx⟩ := hi.allInts.items
  have hn : numsOf (intItems xs).toList = ns := by rw [← hx]; exact hi.numsOf
  rw [nums_intItems] at hn
  rw [hx] at ht
  refine PySem.W.ktm_sumG (I.ok.hd hc) ht fun h' tk t' k => ?_
  rw [preSum_eq, List.take_of_length_le (by simp), hn]
  exact ⟨.int _, H, I.kept k, ⟨_, rfl⟩, q⟩
theorem lt_int (x y : Int) : dataLt (.int x) (.int y) = decide (x < y) := by
  exact PySem.W.dataLt_int x y
theorem min_int (x : Int) (xs : List Int) : minD (.int x) (xs.map .int) = .int (lmin (x :: xs)) := by
  unfold minD
  induction xs generalizing x with
  | nil => rfl
  | cons z r ih =>
    rw [List.map_cons, List.foldl_cons, lt_int]
    have e : ∀ w : Int, w = min x z → lmin (w :: r) = lmin (x :: z :: r) := fun w hw => by
      cases r with
      | nil => rw [hw]; rfl
      | cons y r => 
        have h1 := lmin_cons (x := w) (r := y :: r) (by simp)
        have h2 := lmin_cons (x := x) (r := z :: y :: r) (by simp)
        have h3 := lmin_cons (x := z) (r := y :: r) (by simp)
        omega
    by_cases c : z < x
    · rw [if_pos (decide_eq_true c)]
      exact (ih z).trans (congrArg _ (e z (by omega)))
    · rw [if_neg (by simpa using c)]
      exact (ih x).trans (congrArg _ (e x (by omega)))
/-- min(t) -/
def rMinT (K : PySem.W.Frag) : List V → Hp → VK → Prop := fun vs H Q => ∃ (a : Addr) (ns : List Int), vs = [V.ref a] ∧ SqT K H a (ns.map V.int) ∧ ns ≠ [] ∧ Q (.int (lmin ns)) H
theorem dpa_ints_of {K : PySem.W.Frag} {H : Hp} : ∀ ns : List Int, DpAll K H (ns.map V.int) (ns.map .int)
  | [] => .nil
  | n :: r => .cons (.int n) (dpa_ints_of r)
theorem kc_minT (K : PySem.W.Frag) {X : Cx} (hu : X.A.units + 64 < cLine) (hc : X.calm = true := by rfl) (h : X.K = K := by rfl) : CallR X (.builtin "min") (rMinT K) := by
  cases h
  rintro pins s σ H vs us Q I r ⟨a, ns, rfl, hl, ne, q⟩
  obtain ⟨its, rv, pl, hz⟩ := I.tuple hl
  rw [Vals.ref1 r]
  cases ns with
  | nil => exact absurd rfl ne
  | cons x xs =>
    obtain ⟨as, ra⟩ := Dp.readsAll I ((x :: xs).map .int) _ _ (dpa_ints_of (x :: xs)) rv
    have dz : ∀ l : List Int, PyData.depthAll (l.map .int) = 0 := fun l => by
      induction l with
      | nil => simp [PyData.depthAll]
      | cons y l ih => rw [List.map_cons, PyData.depthAll, ih]; simp [PyData.depth]
    have al : AlikeAll ((x :: xs).map PyData.int) := ⟨fun y hy z hz => by
      obtain ⟨b, _, rfl⟩ := List.mem_map.mp hy
      obtain ⟨c, _, rfl⟩ := List.mem_map.mp hz
      simp [alike], fun y hy e => by
      obtain ⟨b, _, rfl⟩ := List.mem_map.mp hy
      cases e⟩
    refine PySem.W.min_tuple_data (x := .int x) (xs := xs.map .int) (I.ok.hd hc) pl (by simpa using ra) al (by have := dz (x :: xs); rw [List.map_cons] at this; rw [this]; omega) ?_
    rintro i v h' tk bs hv rd kp
    rw [min_int] at rd
    cases rd with
    | int _ t => exact ⟨.int (lmin (x :: xs)), H, I.kept kp, ⟨t, rfl⟩, q⟩
/-- set(xs), xs a list of tuples of ints -/
theorem kc_setI (K : PySem.W.Frag) {X : Cx} (hu : X.A.units + 64 < cLine) (hc : X.calm = true := by rfl) (h : X.K = K := by rfl) : CallR X (.type "set") (rSetOfT K X.prog X.w) := by
  cases h
  exact cr_setOfT hc hu
section
variable {P : Program} {w : World} {A : Around} {E : Value → Shared → Prop} {s : Shared}
/-- sorted of a set of at most one tuple -/
theorem sorted_one {a : Addr} {L : List (Addr × List Int)} {es : Array (Int × Value)} {ep : Nat} {tb : SetTable} {Q : Value → Shared → Prop} (R : SetTR P w s.heap a L es ep tb) (free : A.handled = none) (nil : ∀ p ∈ L, p.2 = [])
    (go : ∀ s' p (out : Array Value) (c : Nat), L.length ≤ 1 → (∀ b o, s.heap.get? b = some o → s'.heap.get? b = some o) → s'.gens = s.gens → s'.os = s.os → s.heap.objs.size ≤ p →
      s'.heap.get? p = some (seqObj "list" out c) → out.toList = L.map (fun q => Value.ref q.1) → Q (.ref p) s') : wpAny (model P w) A (call (.builtin "sorted") [.ref a]) Q E s := by
  obtain ⟨o, ho, ex, od⟩ := R.ob
  have n1 := R.size
  have few : L.length ≤ 1 := by
    have nd := R.nd
    match L, nil, nd with
    | [], _, _ => exact Nat.zero_le _
    | [_], _, _ => exact Nat.le_refl _
    | x :: y :: r, nil, nd =>
      rw [List.map_cons, List.map_cons, nil x List.mem_cons_self, nil y (List.mem_cons_of_mem _ List.mem_cons_self)] at nd
      simp at nd
  refine Calls.call_function_entry kind_sorted plain_sorted entry_sorted (args_sorted1 _) ?_
  unfold Builtin.«sorted»
  refine wpAny_bind (m := checkCount "sorted" 1 1 _) (wpAny_pure ?_)
  refine wpAny_bind (collect_set (A := A.in1) free ⟨o, ho, ex.1, od⟩ R.fits (by unfold scanBound; omega) R.tab.ris R.led fun s1 vs k1 hz g1 o1 pm => ?_)
  have rows : es.toList.map Prod.snd = L.map fun q => Value.ref q.1 := by
    rw [R.rows, rowsOf, List.map_map]
    rfl
  have hv : vs = L.map fun q => Value.ref q.1 := by
    have pm2 : vs.Perm (L.map fun q => Value.ref q.1) := by rw [← rows]; exact pm
    match L, few, pm2 with
    | [], _, p2 => exact p2.eq_nil
    | [x], _, p2 => exact List.perm_singleton.mp p2
  have vl : vs.length ≤ 1 := by rw [hv, List.length_map]; exact few
  refine wpAny_bind (wpAny_newList ?_ (by rw [sizeLine_eq]; omega))
  have at0 : (s1.heap.push (seqObj "list" vs.toArray 0)).get? s1.heap.objs.size = some (seqObj "list" vs.toArray 0) := Heap.get?_push_size _ rfl
  refine wpAny_bind (wpAny_holding (wpAny_call_entry slot_list_sort ⟨_, at0, rfl⟩ entry_list_sort (SK.plain_sort (r := fun _ => 0) at0 (by omega) (fun h2 => by omega) fun ps out o1' o2 _ => ?_) (args_list_sort _)))
  have hout : out.toList = vs := by
    obtain ⟨pm3, _⟩ := TS.out_rank (r := fun _ => 0) o1' o2 (List.pairwise_of_forall fun _ _ => Int.le_refl _)
    match vs, vl, pm3 with
    | [], _, p2 => exact p2.eq_nil
    | [x], _, p2 => exact List.perm_singleton.mp p2
  obtain ⟨c, hc⟩ := sortedHeap_at (vs := vs) (out := out) at0
  refine ⟨_, rfl, wpAny_pure ⟨_, rfl, go _ s1.heap.objs.size out c few (fun b u e => ?_) g1 o1 hz hc (hout.trans hv)⟩⟩
  have e2 := k1 b u e
  have lt := Heap.lt_size e2
  refine (sortedHeap_old (Nat.ne_of_lt lt) ?_).trans (Heap.get?_push_of_some _ e2)
  rw [size_push']
  exact Nat.lt_succ_of_lt lt
end
/-- sorted(set), tuples of d ints in [0, B); or one tuple at most -/
def rSortI (K : PySem.W.Frag) (P : Program) (w : World) : List V → Hp → VK → Prop := fun vs H Q => rSortedT K P w vs H Q ∨ ∃ (a : Addr) (L : List (Addr × List Int)), vs = [V.ref a] ∧ H a = some (SetTO P w a L) ∧ (∀ p ∈ L, SqT K H p.1 (p.2.map V.int)) ∧ (∀ p ∈ L, p.2 = []) ∧
  ∀ p : Addr, L.length ≤ 1 → H p = none → Q (.ref p) (upd H p (.lst (L.map fun q => V.ref q.1)))
theorem kc_sortI (K : PySem.W.Frag) {X : Cx} (hc : X.calm = true := by rfl) (h : X.K = K := by rfl) : CallR X (.builtin "sorted") (rSortI K X.prog X.w) := by
  cases h
  rintro pins s σ H vs us Q I r (h | ⟨a, L, rfl, ha, hk, few, q⟩)
  · exact cr_sortedT hc pins s σ H vs us Q I r h
  have R0 : SetT0 X.prog X.w s.heap a L := (I.hok a _ ha).1
  obtain ⟨es, ep, tb, R⟩ := R0.full fun p hp => I.isT (hk p hp)
  rw [Vals.ref1 r]
  refine sorted_one R (I.ok.hd hc) few fun s' p out c few k g o hp hg hout => ?_
  have len : (L.map fun q => V.ref q.1).length ≤ sizeLine := by rw [List.length_map, sizeLine_eq]; omega
  have hn : H p = none := I.hok.fresh hp
  have J : Inv X pins σ (upd H p (.lst (L.map fun q => V.ref q.1))) { s with heap := s'.heap, gens := s'.gens, drawn := s'.drawn, toks := s'.toks } :=
    I.call (ch := []) (Un.laid k hp hn) (I.hok.laid k hp ⟨len, out.toList, c, by rw [hout]; exact vals_of_refs L, hg⟩) (by rw [g]; exact I.bare) fun _ z => nomatch z
  have e : s' = { s with heap := s'.heap, gens := s'.gens, drawn := s'.drawn, toks := s'.toks } := by
    cases s'; cases s; cases o; rfl
  rw [e]
  exact ⟨.ref p, _, J, rfl, q p few hn⟩
end K23
/-! V11a: sorted(set(rows)). -/
namespace K23
open PySem PySem.Spec PyProof.Rows L2
section
variable {T : Tl} {P : Program} {w : World} {K : PySem.W.Frag}
theorem rows_refs {H : Hp} : ∀ {ys : List V} {rows : List (List Int)}, DpAll K H ys (rows.map tupI) → ∃ ks : List (Addr × List Int), ys = ks.map (fun p => V.ref p.1) ∧ ks.map (·.2) = rows ∧ ∀ p ∈ ks, SqT K H p.1 (p.2.map V.int)
  | _, [], .nil => ⟨[], rfl, rfl, fun p hp => nomatch hp⟩
  | _, r :: rows, .cons h t => by
    obtain ⟨la, rfl, hla⟩ := Dp.tup_ints h
    obtain ⟨ks, rfl, e2, e3⟩ := rows_refs t
    refine ⟨(la, r) :: ks, rfl, by rw [List.map_cons, e2], fun p hp => ?_⟩
    rcases List.mem_cons.mp hp with e | e
    · rw [e]; exact hla
    · exact e3 p e
theorem dpa_refs {H : Hp} : ∀ {ks : List (Addr × List Int)}, (∀ p ∈ ks, SqT K H p.1 (p.2.map V.int)) → DpAll K H (ks.map fun p => V.ref p.1) ((ks.map (·.2)).map tupI)
  | [], _ => .nil
  | p :: ks, h => .cons (.tup (h p List.mem_cons_self) (dpa_of_ints _)) (dpa_refs fun q hq => h q (List.mem_cons_of_mem _ hq))
theorem sort_set {H : Hp} {D : Addr} {ys : List V} {rows : List (List Int)} {d : Nat} {Q : VK} (hD : SqL K H D ys) (hy : DpAll K H ys (rows.map tupI)) (few : rows.length < 64) (len : ∀ r ∈ rows, r.length = d) (small : ∀ r ∈ rows, ∀ x ∈ r, 0 ≤ x ∧ x ≤ 1000)
    (q : ∀ (H' : Hp) (p : Addr) (zs : List V) (C : List (List Int)), Ex T H H' → H' p = some (.lst zs) → DpAll K H' zs (C.map tupI) → (∀ c ∈ C, c ∈ rows) → (∀ r ∈ rows, r ∈ C) → C.length < 64 → Q (.ref p) H') :
    rSetOfT K P w [.ref D] H fun x H1 => rSortI K P w [x] H1 Q := by
  obtain ⟨ks, rfl, rfl, hk⟩ := rows_refs hy
  rw [List.length_map] at few
  refine ⟨D, ks, rfl, hD, hk, few, fun a L na hs ha => ?_⟩
  have e1 : Ex T H (upd H a (SetTO P w a L)) := Ex.new na
  have hL : ∀ p ∈ L, SqT K (upd H a (SetTO P w a L)) p.1 (p.2.map V.int) := fun p hp => e1.st (hk p (hs p hp))
  have inr : ∀ p ∈ L, p.2 ∈ ks.map (·.2) := fun p hp => List.mem_map.mpr ⟨p, hs p hp, rfl⟩
  by_cases z : d = 0
  · refine .inr ⟨a, L, rfl, upd_same, hL, fun p hp => List.eq_nil_of_length_eq_zero ((len _ (inr p hp)).trans z), fun p f1 np => ?_⟩
    have e2 : Ex T (upd H a (SetTO P w a L)) (upd (upd H a (SetTO P w a L)) p (.lst (L.map fun q => V.ref q.1))) := Ex.new np
    refine q _ p _ (L.map (·.2)) (e1.trans e2) upd_same (e2.dpa (dpa_refs hL)) (fun c hc => ?_) (fun r hr => ?_) (by rw [List.length_map]; omega)
    · obtain ⟨p, hp, rfl⟩ := List.mem_map.mp hc
      exact inr p hp
    · obtain ⟨p, hp, rfl⟩ := List.mem_map.mp hr
      exact ha p hp
  · refine .inl ⟨a, L, d, 1001, rfl, upd_same, hL, by omega, fun p hp => ⟨len _ (inr p hp), fun x hx => ?_⟩, fun L' p pm nd f1 pw np => ?_⟩
    · have := small _ (inr p hp) x hx
      exact ⟨this.1, by omega⟩
    · have e2 : Ex T (upd H a (SetTO P w a L)) (upd (upd H a (SetTO P w a L)) p (.lst (L'.map fun q => V.ref q.1))) := Ex.new np
      refine q _ p _ (L'.map (·.2)) (e1.trans e2) upd_same (e2.dpa (dpa_refs fun p hp => hL p (pm.mem_iff.mp hp))) (fun c hc => ?_) (fun r hr => ?_) (by rw [List.length_map]; omega)
      · obtain ⟨p, hp, rfl⟩ := List.mem_map.mp hc
        exact inr p (pm.mem_iff.mp hp)
      · obtain ⟨p, hp, rfl⟩ := List.mem_map.mp hr
        exact (pm.map (·.2)).mem_iff.mpr (ha p hp)
end
end K23
/-! V11: _law_lots_right. -/
namespace K23
open PySem PySem.Spec PyProof.Rows L2
section
variable {T : Tl} {P : Program} {w : World} {K : PySem.W.Frag} {mg : Str → Option Value} {base : Heap} {A : Nat → Addr} {D : Nat → FuncData}
theorem log_small {i : Int} (h0 : 0 ≤ i) (h : i ≤ 10 ^ 40) : i.natAbs.log2 < 1920 := by
  by_cases z : i.natAbs = 0
  · rw [z]; decide
  · refine (Nat.log2_lt z).mpr (Nat.lt_of_le_of_lt (m := 10 ^ 40) ?_ (by decide +kernel))
    omega
theorem repr_oV {o : Option Int} (h : ∀ e, o = some e → 0 ≤ e ∧ e ≤ 10 ^ 40) : ReprOk (oD o) := by
  cases o with
  | none => exact .none
  | some e => exact .int e (log_small (h e rfl).1 (h e rfl).2)
def dueB (n : Int) : Option Int → Bool
  | none => true
  | some e => decide (n < e)
theorem due_test {σ : L2.St} {H : Hp} {Q : VK} {o : Option Int} {n : Int} {i j : Nat} (h1 : σ[i]? = some (some (oV o))) (h2 : σ[j]? = some (some (.int n))) (q : Q (.bl (dueB n o)) H) :
    tOrV (tOp (fun x y H Q => y = V.non ∧ Q (V.bl (decide (x = V.non))) H) (tVar i) (tC V.non)) (tOp (rI0 fun i j => V.bl (decide (j < i))) (tVar i) (tVar j)) σ H Q := by
  refine ⟨_, h1, rfl, _, rfl, ?_⟩
  cases o with
  | none => exact q
  | some e =>
    rw [if_neg (by rw [decide_eq_false (by intro z; cases z)]; decide)]
    exact ⟨_, h1, _, h2, e, n, rfl, rfl, q⟩
theorem rng_map {β : Type} (g : Str → β) : ∀ Ks : List Str, (List.range Ks.length).map (fun i => g (Ks.getD i Str.empty)) = Ks.map g
  | [] => rfl
  | k :: r => by
    rw [List.length_cons, range_cons, List.map_cons, List.map_map, List.map_cons, ← rng_map g r]
    rfl
theorem lot_ok {f : Fm Str} {Ks L : List Str} (hk : Ks = sortN f.names) (nd : Ks.Nodup) (h : L.Sublist Ks) : LotOk L f.names :=
  ⟨by rw [uniq_of (h.nodup nd), sortN_of (List.Pairwise.sublist h (by rw [hk]; exact sortN_sorted _))], fun s hs => mem_sortN.mp (by rw [← hk]; exact h.subset hs)⟩
def spLR (T : Tl) (K : PySem.W.Frag) : Sp := fun vs H Q _ => ∃ (h k wa pa : Addr) (v : V) (f : Fm Str) (Ks : List Str) (xs : List V) (V' : List (List Int)) (ρ : Str → Int), vs = [.ref h, v, .ref k, .ref wa, .ref pa] ∧ Dh H h ∧ Asked K H v k wa pa f Ks xs V' ρ ∧ V'.length < 64 ∧ LamX.Tabs T H ∧ ∀ H', Ex T H H' → Q (.bl true) H'
theorem ok_lots_right (U : Txt K mg A D) (hL : LamOk mg base T (D 16) "joined.<locals>.<lambda>") : FnG P w K mg base 60 (A 57) (D 57) ["_law_heap_here", "_law_formula_here", "_law_kinds", "_law_ways_here", "_law_pool"] (spLR T K) := by
  have G_l_number : FnOk P w K mg base CX0 2 (A 51) (D 51) ["_law_ways_here", "_law_pool"] (spNumV T K) := ok_number U
  have G_tight_sides : FnOk P w K mg base CX0 49 (A 39) (D 39) ["formula", "pool"] (spTight T K) := ok_tight_sides U
  have G_l_lots : FnOk P w K mg base CX0 1 (A 53) (D 53) ["_law_kinds"] (spLots T K) := ok_lots U
  have G_l_cut : FnOk P w K mg base CX0 1 (A 56) (D 56) ["_law_row", "_law_kinds", "_law_lot"] (spLCut T K) := ok_lcut U
  have G_pieces_with_plenty : FnOk P w K mg base CX0 28 (A 29) (D 29) ["formula", "pool", "lot"] (spPlenty T K) := ok_pieces_with_plenty U
  have G_pieces : FnOk P w K mg base CX0 28 (A 24) (D 24) ["formula", "pool"] (spPcs T K) := ok_pieces U
  have G_formula_plenty : FnOk P w K mg base CX0 55 (A 34) (D 34) ["formula", "lot"] (spFP T K false) := ok_formula_plenty U hL
  have G_formula_lacking : FnOk P w K mg base CX0 55 (A 33) (D 33) ["formula", "lot"] (spFP T K true) := ok_formula_lacking U hL
  have G_l_idle : FnOk P w K mg base CX0 1 (A 58) (D 58) ["_law_kinds", "_law_formula_here"] (spIdle T K) := ok_idle U
  have G_l_pick := ok_pick (T := T) (P := P) (w := w) (base := base) U
  refine okG (F_l_lots_right U) sc_l_lots_right (fun vs H Q E h => by obtain ⟨_, _, _, _, _, _, _, _, _, _, rfl, _⟩ := h; rfl) (fun cdv A' outer s H vs Q E hr hG h => ?_)
  obtain ⟨h, k, wa, pa, v, f, Ks, xs, V', ρ, rfl, hh, as, few64, hT, q⟩ := h
  refine ⟨_, PSs.nox (pss_cons
      (ps_par (i := 5) (j := 6) rfl sc_l_lots_right.nd rfl rfl  (by decide)  rfl rfl  (pa_cons (pe_f G_l_number hr (by omega) (g_l_number U) (F_l_number U).kp (b_l_number U) (pa_cons (pv 3) (pa_cons (pv 4) pa_nil))) (pa_cons (pe_f G_tight_sides hr (by omega) (g_tight_sides U) (F_tight_sides U).kp (b_tight_sides U) (pa_cons (pv 1) (pa_cons (pv 4) pa_nil))) pa_nil)) (by kernel_rfl))
      (pss_cons
      (ps_for PassesOwn.never rfl (ki_list K (pe_f G_l_lots hr (by omega) (g_l_lots U) (F_l_lots U).kp (b_l_lots U) (pa_cons (pv 2) pa_nil))) (pg_name (i := 7) sc_l_lots_right.nd rfl (.inr rfl))
       (pss_cons
       (ps_asg (pe_tup (pa_cons (pe_callB (kc_sortI K) (by rfl) (z_sorted U) boot_sorted (pa_cons (pe_callTy (kc_setI K hr.units) (by rfl) (z_set U) boot_set (pa_cons (pe_lc (g := gName 16) (tt := tYes) rfl sc_l_lots_right.nd (ki_list K (pv 3)) (blkOk_by (N := N_l_lots_right) (own := [("_law_way", 16)]) (by kernel_rfl)) (fun _ _ _ _ _ => (pg_name (i := 16) sc_l_lots_right.nd rfl (.inl rfl))) (fun _ _ _ _ _ => pts_nil) (fun _ _ _ _ _ => (pe_f G_l_cut hr (by omega) (g_l_cut U) (F_l_cut U).kp (b_l_cut U) (pa_cons (pv 16) (pa_cons (pv 2) (pa_cons (pv 7) pa_nil)))))) pa_nil)) pa_nil)) (pa_cons (pe_f G_l_cut hr (by omega) (g_l_cut U) (F_l_cut U).kp (b_l_cut U) (pa_cons (pv 4) (pa_cons (pv 2) (pa_cons (pv 7) pa_nil)))) pa_nil))) (kg_tup K (n := 2) (pgs_cons (pg_name (i := 8) sc_l_lots_right.nd rfl (.inl rfl)) (pgs_cons (pg_name (i := 9) sc_l_lots_right.nd rfl (.inr rfl)) pgs_nil))))
       (pss_cons
       (ps_set (i := 10) sc_l_lots_right.nd rfl (.inr rfl) (pe_ifExp (pt_cmpR op_eq (pe_callB (kc_min K) (by rfl) (z_min U) boot_min (pa_cons (pe_lc (g := gName 17) (tt := tYes) rfl sc_l_lots_right.nd (ki_list K (pv 8)) (blkOk_by (N := N_l_lots_right) (own := [("_law_cut_here", 17)]) (by kernel_rfl)) (fun _ _ _ _ _ => (pg_name (i := 17) sc_l_lots_right.nd rfl (.inl rfl))) (fun _ _ _ _ _ => pts_nil) (fun _ _ _ _ _ => (pe_callB (kc_sumT K) (by rfl) (z_sum U) boot_sum (pa_cons (pv 17) pa_nil)))) pa_nil)) pe_int (nomark _)) pe_non (pe_f G_l_number hr (by omega) (g_l_number U) (F_l_number U).kp (b_l_number U) (pa_cons (pv 8) (pa_cons (pv 9) pa_nil)))))
       (pss_cons
       (ps_set (i := 11) sc_l_lots_right.nd rfl (.inl rfl) (pe_f G_pieces_with_plenty hr (by omega) (g_pieces_with_plenty U) (F_pieces_with_plenty U).kp (b_pieces_with_plenty U) (pa_cons (pv 1) (pa_cons (pv 4) (pa_cons (pv 7) pa_nil)))))
       (pss_cons
       (ps_if (pt_cmpR op_ne (pe_callB (kc_repr K hG hr.units) (by rfl) (z_repr U) boot_repr (pa_cons (pv 11) pa_nil)) (pe_callB (kc_repr K hG hr.units) (by rfl) (z_repr U) boot_repr (pa_cons (pv 10) pa_nil)) (nomark _))
        (pss_one
        (ps_ret pe_bl))
        pss_nil)
       (pss_one
       (ps_if (pt_cmpR op_ne (pe_or (pe_cmpR op_isN (pv 10) pe_non (nomark _)) (pe_one (pe_cmpR op_gt (pv 10) (pv 5) (nomark _)))) (pe_callB (kc_all K) (by rfl) (z_all U) boot_all (pa_cons (pe_lc (g := gName 15) (tt := tYes) rfl sc_l_lots_right.nd (ki_tup K (pv 6)) (blkOk_by (N := N_l_lots_right) (own := [("_law_side", 15)]) (by kernel_rfl)) (fun _ _ _ _ _ => (pg_name (i := 15) sc_l_lots_right.nd rfl (.inl rfl))) (fun _ _ _ _ _ => pts_nil) (fun _ _ _ _ _ => (pe_callB (kc_any K) (by rfl) (z_any U) boot_any (pa_cons (pe_lc (g := gName 18) (tt := tYes) rfl sc_l_lots_right.nd (ki_tup K (pv 15)) (blkOk_by (N := N_l_lots_right) (own := [("_law_kind", 18)]) (by kernel_rfl)) (fun _ _ _ _ _ => (pg_name (i := 18) sc_l_lots_right.nd rfl (.inl rfl))) (fun _ _ _ _ _ => pts_nil) (fun _ _ _ _ _ => (pe_cmpR (ko_in K) (pv 18) (pv 7) rfl))) pa_nil)))) pa_nil)) (nomark _))
        (pss_one
        (ps_ret pe_bl))
        pss_nil)))))))
      (pss_cons
      (ps_set (i := 7) sc_l_lots_right.nd rfl (.inr rfl) (pe_f G_l_pick hr (by omega) (g_l_pick U) (F_l_pick U).kp (b_l_pick U) (pa_cons (pv 0) (pa_cons (pe_f G_l_lots hr (by omega) (g_l_lots U) (F_l_lots U).kp (b_l_lots U) (pa_cons (pv 2) pa_nil)) pa_nil))))
      (pss_cons
      (ps_set (i := 12) sc_l_lots_right.nd rfl (.inl rfl) (pe_callTy (kc_tuple K) (by rfl) (z_tuple U) boot_tuple (pa_cons (pe_lc (g := gName 13) (tt := tYes) rfl sc_l_lots_right.nd (pi_range1 (by rfl) (z_range U) (pa_cons (pe_callB (kc_len K) (by rfl) (z_len U) boot_len (pa_cons (pv 2) pa_nil)) pa_nil)) (blkOk_by (N := N_l_lots_right) (own := [("_law_at", 13)]) (by kernel_rfl)) (fun _ _ _ _ _ => (pg_name (i := 13) sc_l_lots_right.nd rfl (.inl rfl))) (fun _ _ _ _ _ => pts_nil) (fun _ _ _ _ _ => (pe_ifExp (pt_cmpR (ko_in K) (pe_ix (kx_tup K) (pv 2) (pv 13) (fun _ _ => rfl)) (pv 7) rfl) pe_int (pe_ix (kx_tup K) (pv 4) (pv 13) (fun _ _ => rfl))))) pa_nil)))
      (pss_cons
      (ps_set (i := 10) sc_l_lots_right.nd rfl (.inr rfl) (pe_lst (pa_cons (pe_fk G_pieces_with_plenty hr (by omega) (g_pieces_with_plenty U) (F_pieces_with_plenty U).kp (kb_pieces_with_plenty U) (pk_cons (pv 7) (pk_cons (pv 4) (pk_cons (pv 1) pk_nil)))) (pa_cons (pe_f G_pieces hr (by omega) (g_pieces U) (F_pieces U).kp (b_pieces U) (pa_cons (pv 1) (pa_cons (pv 12) pa_nil))) pa_nil))))
      (pss_cons
      (ps_set (i := 9) sc_l_lots_right.nd rfl (.inr rfl) (pe_lst (pa_cons (pe_f G_formula_plenty hr (by omega) (g_formula_plenty U) (F_formula_plenty U).kp (b_formula_plenty U) (pa_cons (pv 1) (pa_cons (pv 7) pa_nil))) (pa_cons (pe_f G_formula_lacking hr (by omega) (g_formula_lacking U) (F_formula_lacking U).kp (b_formula_lacking U) (pa_cons (pv 1) (pa_cons (pv 7) pa_nil))) pa_nil))))
      (pss_cons
      (ps_if (PW.pt (pw_or (pt_cmpR op_ne (pe_cmpR op_isN (pe_ix (kx_list K) (pv 9) pe_int (fun _ _ => rfl)) pe_non (nomark _)) (pe_cmpR op_isN (pe_ix (kx_list K) (pv 10) pe_int (fun _ _ => rfl)) pe_non (nomark _)) (nomark _)) (pw_or1 (PW.pt (pw_and (pt_cmpR op_isN (pe_ix (kx_list K) (pv 9) pe_int (fun _ _ => rfl)) pe_non (nomark _)) (pw_and1 (pt_cmpR op_ne (pe_ix (kx_list K) (pv 10) pe_int (fun _ _ => rfl)) pe_int (nomark _))))))))
       (pss_one
       (ps_ret pe_bl))
       pss_nil)
      (pss_one
      (ps_ret (pe_callB (kc_all K) (by rfl) (z_all U) boot_all (pa_cons (pe_lc (g := gName 14) (tt := tYes) rfl sc_l_lots_right.nd (pi_range1 (by rfl) (z_range U) (pa_cons pe_int pa_nil)) (blkOk_by (N := N_l_lots_right) (own := [("_law_k", 14)]) (by kernel_rfl)) (fun _ _ _ _ _ => (pg_name (i := 14) sc_l_lots_right.nd rfl (.inl rfl))) (fun _ _ _ _ _ => pts_nil) (fun _ _ _ _ _ => (pe_or (pe_cmpR op_isN (pe_ix (kx_list K) (pv 9) (pv 14) (fun _ _ => rfl)) pe_non (nomark _)) (pe_one (pe_cmpR op_eq (pe_f G_pieces hr (by omega) (g_pieces U) (F_pieces U).kp (b_pieces U) (pa_cons (pe_ix (kx_list K) (pv 9) (pv 14) (fun _ _ => rfl)) (pa_cons (pe_f G_l_cut hr (by omega) (g_l_cut U) (F_l_cut U).kp (b_l_cut U) (pa_cons (pv 4) (pa_cons (pv 2) (pa_cons (pe_f G_l_idle hr (by omega) (g_l_idle U) (F_l_idle U).kp (b_l_idle U) (pa_cons (pv 2) (pa_cons (pe_ix (kx_list K) (pv 9) (pv 14) (fun _ _ => rfl)) pa_nil))) pa_nil)))) pa_nil))) (pe_ix (kx_list K) (pv 10) (pv 14) (fun _ _ => rfl)) (nomark _)))))) pa_nil))))))))))), ?_⟩
  have hl5 := as.len
  have hR : Rows (Ks.map ρ).length V' := by rw [List.length_map]; exact as.W.rows
  have hN8 : (Ks.map ρ).length ≤ 8 := by rw [List.length_map]; omega
  have g0 : ∀ s ∈ f.names, 0 ≤ ρ s := fun s hs => (as.h0 s hs).1
  have g2 : ∀ s ∈ f.names, ρ s ≤ 10 ^ 29 := fun s hs => Int.le_trans (as.h0 s hs).2 (by decide)
  have enum : numV V' (Ks.map ρ) = num ρ f := as.W.num g0 g2
  have hxl : xs.length = V'.length := by rw [dpa_len as.hxs, List.length_map]
  have eb : ∀ L e, endless ρ L f = some e → 0 ≤ e ∧ e ≤ 10 ^ 40 := fun L e he => ⟨endless_nonneg (fun s h1 _ => g0 s h1) he, Int.le_trans (endless_le as.W.ok g0 g2 (by decide) he) (by decide)⟩
  refine ⟨_, rfl, _, rfl, wa, pa, xs, V', _, rfl, as.hw, as.hxs, as.hp, hR, as.W.small, hN8, as.few, fun H1 e1 => ?_⟩
  rw [enum]
  refine ⟨_, rfl, _, rfl, v, f, pa, ρ, rfl, e1.dp as.hv, as.W.ok, as.five, as.dep, (as.ex e1).pool, fun H2 tp tys ts e2 htp pts htd => ?_⟩
  refine ⟨_, _, rfl, ?_⟩
  have e12 := e1.trans e2
  refine ⟨_, rfl, k, Ks, rfl, e12.st as.hk, hl5, fun H3 lo zs Ls flo e3 hlo hz hsub lpos l32 => ?_⟩
  have e13 := e12.trans e3
  refine ⟨lo, rfl, ⟨zs, .inl (.inl hlo)⟩, ?_⟩
  have zl : zs.length = Ls.length := by rw [dpa_len hz, List.length_map]
  refine for_it (walk_list (xs := zs)) (fun i σ H' => ∃ y7 y8 y9 y10 y11 : Option V, σ = [some (.ref h), some v, some (.ref k), some (.ref wa), some (.ref pa), some (.int (num ρ f)), some (.ref tp), y7, y8, y9, y10, y11, none, none, none, none, none, none, none] ∧ Ex T H3 H') ?_ ?_ ?_ ?_
  · exact ⟨none, none, none, none, none, rfl, Ex.refl _⟩
  · rintro i σ H' _ ⟨_, _, _, _, _, _, e⟩
    exact e.sl (.inl (.inl hlo))
  · rintro i x σ H4 H5 hi ⟨y7, y8, y9, y10, y11, rfl, e4⟩ ⟨rfl, hx⟩
    obtain ⟨L, hL⟩ : ∃ L, Ls[i]? = some L := ⟨Ls[i]'(by omega), List.getElem?_eq_getElem (by omega)⟩
    have hLs := hsub L (List.mem_of_getElem? hL)
    have lok := lot_ok as.ks as.W.nd hLs
    have Ll : L.length ≤ 5 := Nat.le_trans hLs.length_le hl5
    obtain ⟨la, rfl, hla0⟩ := (at_dat hz hL hx).tup_strs
    have hla := e4.st hla0
    have e14 := e13.trans e4
    refine seq_cps (fun σ' H' => ∃ (ca ra : Addr) (cs : List V) (C : List (List Int)), σ' = [some (.ref h), some v, some (.ref k), some (.ref wa), some (.ref pa), some (.int (num ρ f)), some (.ref tp), some (.ref la), some (.ref ca), some (.ref ra), y10, y11, none, none, none, none, none, none, none] ∧ Ex T H5 H' ∧
      H' ca = some (.lst cs) ∧ DpAll K H' cs (C.map tupI) ∧ CutsOf f Ks L C ∧ C.length < 64 ∧ SqT K H' ra ((cutR Ks L ρ).map V.int)) ?_ (fun N hN => ?_)
    · rintro σ' H6 ⟨ca, ra, cs, C, rfl, e6, hca, hcs, Cs, cl, hra⟩
      refine seq_cps (fun σ' H' => σ' = [some (.ref h), some v, some (.ref k), some (.ref wa), some (.ref pa), some (.int (num ρ f)), some (.ref tp), some (.ref la), some (.ref ca), some (.ref ra), some (oV (endless ρ L f)), y11, none, none, none, none, none, none, none] ∧ Ex T H6 H') ?_ (fun N hN => ?_)
      · rintro σ' H7 ⟨rfl, e7⟩
        have e17 := e14.trans (e6.trans e7)
        refine ⟨_, rfl, _, rfl, _, rfl, v, f, pa, la, ρ, L, rfl, e17.dp as.hv, as.W.ok, as.dep, (as.ex e17).pool, (e6.trans e7).st hla, by omega, lok, fun H8 e8 => ?_⟩
        have e18 := e17.trans e8
        refine ⟨_, rfl, _, _, rfl, dp_oV _, repr_oV (eb L), _, rfl, _, _, rfl, dp_oV _, repr_oV (eb L), rfl, _, rfl, ?_⟩
        rw [decide_eq_true rfl]
        show (if (!true) = true then _ else _)
        rw [if_neg (by decide)]
        refine due_test rfl rfl ?_
        have htp8 : SqT K H8 tp tys := ((e3.trans e4).trans ((e6.trans e7).trans e8)).st (.inl (.inl htp))
        have htd8 := ((e3.trans e4).trans ((e6.trans e7).trans e8)).dpa htd
        have hla8 := ((e6.trans e7).trans e8).st hla
        refine ⟨_, rfl, tp, rfl, ⟨tys, htp8⟩, fun D hD => ?_⟩
        have tl : (tights ρ f ts).length ≤ 100000 := by
          have a1 : (sidesIn f).length ≤ 2 ^ 5 := Nat.le_trans (sides_few as.W.ok.wf) (Nat.pow_le_pow_right (by decide) as.five)
          have a2 : ts.length = (sidesIn f).length := by rw [pts.length_eq, List.length_map]
          have a3 : (tights ρ f ts).length ≤ ts.length := List.length_filter_le _ _
          have a4 : (2 : Nat) ^ 5 = 32 := rfl
          omega
        refine map_tup (T := T) (e := tupS) (as := tights ρ f ts) htp8 htd8 (fun t => some (.bool (t.any fun s => decide (s ∈ L)))) tl hD ?_ ?_
        · intro t x H9 E N ht e9 hx _ hE
          obtain ⟨ta, rfl, hta⟩ := hx.tup_strs
          have t8 : t.length ≤ 100000 := by
            obtain ⟨S, hS, rfl⟩ := List.mem_map.mp (pts.mem_iff.mp (List.mem_filter.mp ht).1)
            have := (side_sub S hS).length_le
            have := as.five
            rw [sortN_len]
            omega
          refine ⟨rfl, _, rfl, ta, rfl, ⟨_, hta⟩, fun D2 hD2 => ?_⟩
          refine map_tup (T := T) (e := PyData.str) (as := t) hta (dpa_of_strs _) (fun s => some (.bool (decide (s ∈ L)))) t8 hD2 ?_ ?_
          · intro s x H10 E2 N2 hs e10 hx2 _ hE2
            have := hx2.at_str
            subst this
            refine ⟨rfl, _, rfl, _, rfl, la, _, rfl, .inr ((e9.trans e10).st hla8), rfl, flat_strs _, ?_⟩
            rw [in_strs]
            exact hE2 _ rfl _ H10 (Ex.refl _) rfl (.bl _)
          · intro ys H10 e10 h10 hy
            rw [fm_some] at hy
            have hb : ys = (t.map fun s => decide (s ∈ L)).map V.bl := dpa_bls (by rw [List.map_map]; exact hy)
            subst hb
            refine ⟨D2, _, rfl, .inl (.inl h10), ?_⟩
            rw [List.any_map]
            exact hE _ rfl _ H10 e10 rfl (.bl _)
        · intro ys H9 e9 h9 hy
          rw [fm_some] at hy
          have hb : ys = ((tights ρ f ts).map fun t => t.any fun s => decide (s ∈ L)).map V.bl := dpa_bls (by rw [List.map_map]; exact hy)
          subst hb
          refine ⟨D, _, rfl, .inl (.inl h9), rfl, _, rfl, ?_⟩
          have same : dueB (num ρ f) (endless ρ L f) = ((tights ρ f ts).map fun t => t.any fun s => decide (s ∈ L)).all id := by
            have := tight_all (ρ := ρ) (L := L) as.W pts
            rw [List.all_map]
            rw [Bool.eq_iff_iff]
            refine Iff.trans ?_ this
            cases endless ρ L f with
            | none => exact ⟨fun _ => .inl rfl, fun _ => rfl⟩
            | some e => exact ⟨fun z => .inr ⟨e, rfl, of_decide_eq_true z⟩, fun z => z.elim (fun z => nomatch z) fun ⟨e', h1, h2⟩ => decide_eq_true (by cases h1; exact h2)⟩
          rw [same, decide_eq_true rfl]
          show (if (!true) = true then _ else _)
          rw [if_neg (by decide)]
          exact ⟨_, _, _, _, _, rfl, ((e4.trans (e6.trans e7)).trans e8).trans e9⟩
      · refine ⟨_, rfl, ca, rfl, ⟨cs, .inl (.inl hca)⟩, fun D hD => ?_⟩
        refine map_lst (T := T) (.inl (.inl hca)) hcs (fun c => some (.int c.sum)) (by omega) hD ?_ ?_
        · intro c y H9 E N hc e hy _ hE
          obtain ⟨la2, rfl, hla2⟩ := Dp.tup_ints hy
          exact ⟨rfl, _, rfl, la2, c, rfl, hla2, hE _ rfl _ H9 (Ex.refl _) rfl (.int _)⟩
        · intro ys H9 e9 h9 hy
          rw [fm_some] at hy
          have hb : ys = (C.map List.sum).map V.int := dpa_ints (by rw [List.map_map]; exact hy)
          subst hb
          refine ⟨D, _, rfl, .inl (.inl h9), by rw [List.length_map]; exact Cs.pos as.W, fun m m1 m2 => ⟨rfl, _, rfl, ?_⟩⟩
          have fr := Cs.free (ρ := ρ) as.W m1 m2
          rw [show decide (V.int m = V.int 0) = decide (m = 0) from decide_eq_decide.mpr ⟨fun y => V.int.inj y, fun y => by rw [y]⟩]
          refine if_dec (fun z => ?_) fun z => ?_
          · rw [fr.mp z] at hN
            exact hN _ _ ⟨rfl, e9⟩
          · cases he : endless ρ L f with
            | none => exact absurd (fr.mpr he) z
            | some e =>
              refine ⟨_, rfl, _, rfl, ca, ra, cs, C, _, rfl, e9.sl (.inl (.inl hca)), e9.dpa hcs, e9.st hra, Cs.rows, Cs.small as.W, Nat.le_trans cutR_len (by omega), by omega, fun H10 e10 => ?_⟩
              rw [Cs.num as.W g0 g2 he]
              rw [he] at hN
              exact hN _ _ ⟨rfl, e9.trans e10⟩
    · refine ⟨_, rfl, wa, rfl, ⟨xs, e14.sl as.hw⟩, fun D hD => ?_⟩
      refine map_lst (T := T) (e14.sl as.hw) (e14.dpa as.hxs) (fun v => some (tupI (cutV Ks L v))) (by omega) hD ?_ ?_
      · intro r y H6 E N hr6 e6 hy _ hE
        obtain ⟨w0, hw0, rfl⟩ := (as.W.tells.2 r).mp hr6
        obtain ⟨ra, rfl, hra⟩ := Dp.tup_ints hy
        refine ⟨rfl, _, rfl, _, rfl, _, rfl, ra, k, la, Ks, L, w0, rfl, hra, (e14.trans e6).st as.hk, e6.st hla, by omega, fun H7 p f7 e7 h7 => ?_⟩
        exact hE _ rfl _ H7 e7 (flat_tupI _) (by rw [cutV_map]; exact .tup (.inl (.inl h7)) (dpa_of_ints _))
      · intro ys H6 e6 h6 hy
        rw [fm_some] at hy
        have hy2 : DpAll K H6 ys ((V'.map (cutV Ks L)).map tupI) := by rw [List.map_map]; exact hy
        refine sort_set (T := T) (d := (Ks.filter fun s => decide (s ∉ L)).length) (.inl (.inl h6)) hy2 (by rw [List.length_map]; exact few64) ?_ ?_ fun H7 p cs C e7 hp hcs c1 c2 cl => ?_
        · intro r hr
          obtain ⟨v0, hv0, rfl⟩ := List.mem_map.mp hr
          obtain ⟨w0, hw0, rfl⟩ := (as.W.tells.2 v0).mp hv0
          rw [cutV_map]
          exact List.length_map ..
        · intro r hr x hx
          obtain ⟨v0, hv0, rfl⟩ := List.mem_map.mp hr
          obtain ⟨w0, hw0, rfl⟩ := (as.W.tells.2 v0).mp hv0
          rw [cutV_map] at hx
          obtain ⟨s, hs, rfl⟩ := List.mem_map.mp hx
          exact as.W.small _ hv0 _ (List.mem_map.mpr ⟨s, (List.mem_filter.mp hs).1, rfl⟩)
        · have e67 := e6.trans e7
          refine ⟨_, rfl, _, rfl, _, rfl, pa, k, la, Ks, L, ρ, rfl, (e14.trans e67).st as.hp, (e14.trans e67).st as.hk, e67.st hla, by omega, fun H8 q8 f8 e8 h8 => ?_⟩
          refine ⟨sz_ok (n := 2) (by decide), fun t9 ht9 => ?_⟩
          have e9 : Ex T H8 (upd H8 t9 (.tup [.ref p, .ref q8])) := Ex.new ht9
          refine ⟨t9, _, rfl, .inl (.inl upd_same), rfl, _, _, rfl, _, _, rfl, rfl, ?_⟩
          refine hN _ _ ⟨p, q8, cs, C, rfl, (e67.trans e8).trans e9, (e8.trans e9).lst hp, (e8.trans e9).dpa hcs, as.W.cuts (fun c hc => ?_) (fun r hr => c2 _ (List.mem_map.mpr ⟨r, hr, rfl⟩)), cl, e9.st (.inl (.inl h8))⟩
          obtain ⟨r, hr, e⟩ := List.mem_map.mp (c1 c hc)
          exact ⟨r, hr, e.symm⟩
  · rintro σ H4 ⟨y7, y8, y9, y10, y11, rfl, e4⟩
    have e14 := e13.trans e4
    refine ⟨_, rfl, _, rfl, k, Ks, rfl, e14.st as.hk, hl5, fun H5 lo2 zs2 Ls2 flo2 e5 hlo2 hz2 hsub2 lpos2 l322 => ?_⟩
    have zl2 : zs2.length = Ls2.length := by rw [dpa_len hz2, List.length_map]
    refine ⟨h, lo2, zs2, rfl, hh.ex (e14.trans e5), .inl (.inl (.inl hlo2)), by omega, by omega, fun H6 x j e6 hx => ?_⟩
    have hj : j < zs2.length := (List.getElem?_eq_some_iff.mp hx).1
    obtain ⟨L, hL⟩ : ∃ L, Ls2[j]? = some L := ⟨Ls2[j]'(by omega), List.getElem?_eq_getElem (by omega)⟩
    have hLs := hsub2 L (List.mem_of_getElem? hL)
    have lok := lot_ok as.ks as.W.nd hLs
    have Ll : L.length ≤ 5 := Nat.le_trans hLs.length_le hl5
    obtain ⟨la, rfl, hla⟩ := (e6.dp (at_dat hz2 hL hx)).tup_strs
    have e16 := (e14.trans e5).trans e6
    refine ⟨_, rfl, k, _, rfl, .inr (e16.st as.hk), _, rfl, by rw [List.length_map]; omega, by rw [List.length_map]; omega, fun D hD => ?_⟩
    rw [show ((Ks.map V.str).length : Int).toNat = Ks.length by rw [List.length_map, Int.toNat_natCast]]
    refine map_rng (T := T) (K := K) (fun i => some (.int (noneOf ρ L (Ks.getD i Str.empty)))) (by omega) hD ?_ ?_
    · rintro i0 x0 H7 E N hi0 e7 rfl _ hE
      refine ⟨rfl, _, rfl, _, rfl, k, _, (i0 : Int), _, rfl, rfl, (e16.trans e7).st as.hk, str_atI hi0, _, rfl, la, _, rfl, .inr (e7.st hla), rfl, flat_strs _, _, rfl, ?_⟩
      rw [in_strs]
      refine if_dec (fun z => ?_) fun z => ?_
      · exact hE _ rfl _ H7 (Ex.refl _) rfl (by unfold noneOf; rw [if_pos z]; exact .int 0)
      · refine ⟨_, rfl, _, rfl, pa, _, (i0 : Int), _, rfl, rfl, (e16.trans e7).st as.hp, int_at (by rw [List.length_map]; exact hi0), hE _ rfl _ H7 (Ex.refl _) rfl ?_⟩
        unfold noneOf
        rw [if_neg z, List.getD_eq_getElem?_getD, List.getElem?_map, List.getD_eq_getElem?_getD, List.getElem?_eq_getElem hi0]
        exact .int _
    intro ys H7 e7 h7 hy
    rw [fm_some] at hy
    have hb : ys = (Ks.map (noneOf ρ L)).map V.int := dpa_ints (by rw [← rng_map (noneOf ρ L) Ks, List.map_map]; exact hy)
    subst hb
    refine ⟨D, _, rfl, .inl ⟨.inl (.inl h7), fun ea hea => ?_⟩⟩
    have e78 : Ex T H7 (upd H7 ea (.tup ((Ks.map (noneOf ρ L)).map V.int))) := Ex.new hea
    have e18 := (e16.trans e7).trans e78
    have nn0 : ∀ s ∈ f.names, 0 ≤ noneOf ρ L s ∧ noneOf ρ L s ≤ 10 ^ 18 := fun s hs => by
      unfold noneOf
      split
      · exact ⟨Int.le_refl _, by decide⟩
      · exact as.h0 s hs
    refine ⟨_, rfl, _, rfl, _, rfl, v, f, pa, la, ρ, L, rfl, e18.dp as.hv, as.W.ok, as.dep, (as.ex e18).pool, (e7.trans e78).st hla, by omega, lok, fun H9 e9 => ?_⟩
    have pool9 : PoolAt K H9 ea f.names (noneOf ρ L) := ⟨by rw [pool_map, ← as.ks]; exact e9.st (.inl (.inl upd_same)), nn0⟩
    refine ⟨_, rfl, _, rfl, v, f, ea, noneOf ρ L, rfl, (e18.trans e9).dp as.hv, as.W.ok, as.dep, pool9, fun H10 e10 => ⟨sz_ok (n := 2) (by decide), fun dl hdl => ?_⟩⟩
    have e11 : Ex T H10 (upd H10 dl (.lst [oV (endless ρ L f), .int (num (noneOf ρ L) f)])) := Ex.new hdl
    have e1b := ((e18.trans e9).trans e10).trans e11
    have e8b := ((e7.trans e78).trans (e9.trans e10)).trans e11
    refine ⟨_, rfl, _, rfl, v, f, la, L, rfl, e1b.dp as.hv, as.W.ok, as.five, as.dep, e8b.st hla, by omega, lok, e1b.tabs hT, fun H12 v1 e12' h1 => ?_⟩
    refine ⟨_, rfl, _, rfl, v, f, la, L, rfl, (e1b.trans e12').dp as.hv, as.W.ok, as.five, as.dep, (e8b.trans e12').st hla, by omega, lok, (e1b.trans e12').tabs hT, fun H13 v2 e13' h2 => ⟨sz_ok (n := 2) (by decide), fun rl hrl => ?_⟩⟩
    have e14' : Ex T H13 (upd H13 rl (.lst [v1, v2])) := Ex.new hrl
    have hdl2 := ((e12'.trans e13').trans e14').lst (a := dl) (xs := [oV (endless ρ L f), .int (num (noneOf ρ L) f)]) upd_same
    have hv1 := (e13'.trans e14').dp h1
    have hv2 := e14'.dp h2
    have hrl2 : (upd H13 rl (.lst [v1, v2])) rl = some (.lst [v1, v2]) := upd_same
    have eall := (e1b.trans e12').trans (e13'.trans e14')
    generalize (upd H13 rl (.lst [v1, v2])) = HZ at *
    have cp := cut_plenty (ρ := ρ) (L := L) as.W.ok.wf
    have cl := cut_lacking (ρ := ρ) (L := L) as.W.ok.wf g0
    have nonV : ∀ o : Option Int, decide (oV o = V.non) = o.isNone := fun o => by
      cases o with
      | none => rfl
      | some e => exact decide_eq_false fun z => by cases z
    change tSeq _ _ _ _ _
    delta tSeq
    dsimp only
    refine ifS_cps (fun _ => False) (fun H1 => H1 = HZ) (fun R _ r0 => ?_) (fun _ z => z.elim) (fun H1 eH => ?_)
    · refine ⟨_, rfl, rl, [v1, v2], 0, v1, rfl, rfl, .inl (.inl hrl2), rfl, rfl, _, rfl, dl, _, 0, _, rfl, rfl, .inl (.inl hdl2), rfl, rfl, rfl, _, rfl, ?_⟩
      rw [oF_isN hv1, nonV, show ((cut L false f).map fun g => normT g 1).isNone = (endless ρ L f).isNone by rw [cp]; cases cut L false f <;> rfl, decide_eq_true rfl]
      show (if (!true) = true then _ else _)
      rw [if_neg (by decide)]
      refine ⟨_, rfl, rl, [v1, v2], 1, v2, rfl, rfl, .inl (.inl hrl2), rfl, rfl, _, rfl, ?_⟩
      rw [oF_isN hv2]
      cases hc : cut L true f with
      | some g => exact r0 _ rfl
      | none =>
        rw [hc] at cl
        have cl : num (noneOf ρ L) f = 0 := cl
        refine ⟨_, rfl, dl, _, 1, _, rfl, rfl, .inl (.inl hdl2), rfl, rfl, _, rfl, ?_⟩
        rw [cl, decide_eq_true rfl]
        exact r0 _ rfl
    · rw [eH]
      refine ⟨2, rfl, by decide, by decide, fun D hD => ?_⟩
      refine map_rng (n := 2) (T := T) (K := K) (fun _ => some (.bool true)) (by omega) hD ?_ ?_
      · rintro i0 x0 H7 E N hi0 e7 rfl _ hE
        obtain ⟨wb, vk, dk, hk1, hk2, hk3, hk4⟩ : ∃ (wb : Bool) (vk dk : V), atI [v1, v2] (i0 : Int) = some vk ∧ atI [oV (endless ρ L f), V.int (num (noneOf ρ L) f)] (i0 : Int) = some dk ∧ Dp K HZ vk (oF ((cut L wb f).map fun g => normT g 1)) ∧ ∀ g, cut L wb f = some g → dk = .int (num ρ g) := by
          match i0, hi0 with
          | 0, _ => exact ⟨false, _, _, rfl, rfl, hv1, fun g hg => by rw [cp, hg]; rfl⟩
          | 1, _ => exact ⟨true, _, _, rfl, rfl, hv2, fun g hg => by rw [cl, hg]⟩
        refine ⟨rfl, _, rfl, _, rfl, rl, _, (i0 : Int), vk, rfl, rfl, e7.sl (.inl (.inl hrl2)), hk1, rfl, _, rfl, ?_⟩
        rw [oF_isN hk3]
        cases hc : cut L wb f with
        | none => exact hE _ rfl _ H7 (Ex.refl _) rfl (.bl true)
        | some g =>
          have lo := left_ok as.W as.ks as.five hc (ρ := ρ)
          rw [hc] at hk3
          have hk3 : Dp K HZ vk (enc (normT g 1)) := hk3
          have ez7 := eall.trans e7
          refine ⟨_, rfl, _, rfl, rl, _, (i0 : Int), vk, rfl, rfl, e7.sl (.inl (.inl hrl2)), hk1, _, rfl, _, rfl, _, rfl, _, rfl, _, rfl, rl, _, (i0 : Int), vk, rfl, rfl, e7.sl (.inl (.inl hrl2)), hk1, ?_⟩
          refine ⟨k, vk, Ks, normT g 1, rfl, ez7.st as.hk, by omega, e7.dp hk3, lo.ok, lo.dep, lo.nodes, fun H8 ip f8 e8 h8 => ?_⟩
          refine ⟨pa, k, ip, Ks, idle Ks (normT g 1), ρ, rfl, (ez7.trans e8).st as.hp, (ez7.trans e8).st as.hk, .inl (.inl h8), by omega, fun H9 cpp f9 e9 h9 => ?_⟩
          have p9 : PoolAt K H9 cpp (normT g 1).names ρ := ⟨by rw [pool_map, ← lo.pool]; exact .inl (.inl h9), fun s hs => as.h0 s (lo.sub s hs)⟩
          refine ⟨vk, normT g 1, cpp, ρ, rfl, ((e7.trans e8).trans e9).dp hk3, lo.ok, lo.dep, p9, fun H10 e10 => ?_⟩
          refine ⟨_, rfl, _, rfl, dl, _, (i0 : Int), dk, rfl, rfl, (((e7.trans e8).trans e9).trans e10).sl (.inl (.inl hdl2)), hk2, ?_⟩
          rw [hk4 g hc, lo.num]
          refine ⟨rfl, ?_⟩
          rw [decide_eq_true rfl]
          exact hE _ rfl _ H10 ((e8.trans e9).trans e10) rfl (.bl true)
      · intro ys H7 e7 h7 hy
        rw [fm_some] at hy
        have hb : ys = ((List.range 2).map fun _ => true).map V.bl := dpa_bls (by rw [List.map_map]; exact hy)
        subst hb
        refine ⟨D, _, rfl, .inl (.inl h7), ?_⟩
        exact q _ (eall.trans e7)
end
end K23
/-! P4: flat formulas: ('and', kinds), ('or', kinds). -/
namespace K23
open PySem PySem.Spec PyProof.Rows L2
def flat (b : Bool) (ns : List Str) : Fm Str := .node b (ns.map .kind)
section
variable {b : Bool} {ns Ks : List Str} {ρ : Str → Int} {s : Str} {m : Int}
theorem flat_names : (flat b ns).names = ns := by
  unfold flat
  rw [Fm.names, namesL_eq]
  induction ns with
  | nil => rfl
  | cons x r ih => rw [List.map_cons, List.flatMap_cons, ih, Fm.names]; rfl
theorem names_kinds : namesL (ns.map Fm.kind) = ns := by
  have := flat_names (b := true) (ns := ns)
  unfold flat at this
  rwa [Fm.names] at this
theorem flat_ok (h2 : 2 ≤ ns.length) (h8 : ns.length ≤ 8) (nd : ns.Nodup) (nm : ∀ s ∈ ns, IsNm s) : FmOk (flat b ns) := by
  refine ⟨Wf.node.mpr ⟨by rw [List.length_map]; exact h2, fun p hp => ?_⟩, by rw [flat_names]; exact nd, by rw [flat_names]; exact h8, by rw [flat_names]; exact nm⟩
  obtain ⟨x, _, rfl⟩ := List.mem_map.mp hp
  exact Wf.kind.mpr (by decide)
theorem flat_dep : depth (flat b ns) < 24 := by
  unfold flat
  rw [depth_node]
  have : depthL (ns.map Fm.kind) ≤ 0 := depthL_le fun p hp => by
    obtain ⟨x, _, rfl⟩ := List.mem_map.mp hp
    rw [depth_kind]
    exact Nat.le_refl 0
  omega
theorem nums_flat : (ns.map Fm.kind).map (num ρ) = ns.map ρ := by
  rw [List.map_map]
  exact List.map_congr_left fun x _ => num_kind ρ x
theorem num_both : num ρ (flat true ns) = lmin (ns.map ρ) := by
  unfold flat
  rw [num_and, nums_flat]
theorem num_either : num ρ (flat false ns) = (ns.map ρ).sum := by
  unfold flat
  rw [num_or, nums_flat]
/-- the amounts of the other kinds -/
def oth (Ks : List Str) (ρ : Str → Int) (s : Str) : List Int := (Ks.erase s).map ρ
theorem oth_at : ∀ {Ks : List Str} {i : Nat}, Ks.Nodup → Ks[i]? = some s → oth Ks ρ s = (Ks.map ρ).take i ++ (Ks.map ρ).drop (i + 1)
  | k :: r, 0, _, h => by
    have e : k = s := Option.some.inj h
    subst e
    unfold oth
    rw [List.erase_cons_head]
    rfl
  | k :: r, i + 1, nd, h => by
    obtain ⟨n1, n2⟩ := List.nodup_cons.mp nd
    have h : r[i]? = some s := h
    have ne : k ≠ s := fun z => n1 (z ▸ List.mem_of_getElem? h)
    have ih := oth_at n2 h
    unfold oth at ih ⊢
    rw [List.erase_cons_tail (by simpa using ne), List.map_cons, List.map_cons, List.take_succ_cons, List.drop_succ_cons, ih]
    rfl
theorem others_flat (nd : ns.Nodup) (p : Ks.Perm ns) : (others ρ s (ns.map Fm.kind)).Perm (oth Ks ρ s) := by
  unfold others oth
  have e : ((ns.map Fm.kind).filter fun p => decide (s ∉ p.names)) = (ns.filter fun y => y != s).map Fm.kind := by
    rw [List.filter_map]
    congr 1
    refine List.filter_congr fun y _ => ?_
    show decide (s ∉ (Fm.kind y).names) = (y != s)
    rw [Fm.names]
    by_cases c : y = s
    · subst c; simp
    · simp [c, Ne.symm c, bne]
  rw [e, nums_flat, ← nd.erase_eq_filter]
  exact ((p.erase s).map ρ).symm
theorem targetL_flat (nd : ns.Nodup) (hs : s ∈ ns) : targetL ρ s (ns.map Fm.kind) m = some m := by
  obtain ⟨l, p, r, pt⟩ := part_of (name := s) (ps := ns.map Fm.kind) (by rw [names_kinds]; exact nd) (by rw [names_kinds]; exact hs)
  rw [pt.target]
  obtain ⟨x, _, e⟩ := List.mem_map.mp pt.mem
  rw [← e, target_kind]
theorem target_both (nd : ns.Nodup) (p : Ks.Perm ns) (hs : s ∈ ns) : target ρ s (flat true ns) m = if m ≤ lmin (oth Ks ρ s) then some m else none := by
  unfold flat
  rw [target_and, targetL_flat nd hs, lmin_perm (others_flat nd p)]
theorem target_either (nd : ns.Nodup) (p : Ks.Perm ns) (hs : s ∈ ns) : target ρ s (flat false ns) m = some (m - (oth Ks ρ s).sum) := by
  unfold flat
  rw [target_or, targetL_flat nd hs, sum_perm (others_flat nd p)]
theorem need_both (nd : ns.Nodup) (p : Ks.Perm ns) (hs : s ∈ ns) (hm : 0 ≤ m) : need ρ s (flat true ns) m = if m ≤ lmin (oth Ks ρ s) then some m else none := by
  unfold need
  rw [target_both nd p hs]
  by_cases c : m ≤ lmin (oth Ks ρ s)
  · rw [if_pos c, Option.map_some]
    congr 1
    split <;> omega
  · rw [if_neg c, Option.map_none]
theorem need_either (nd : ns.Nodup) (p : Ks.Perm ns) (hs : s ∈ ns) : need ρ s (flat false ns) m = some (max 0 (m - (oth Ks ρ s).sum)) := by
  unfold need
  rw [target_either nd p hs, Option.map_some]
  congr 1
  split <;> omega
theorem shorts_both (h2 : 2 ≤ ns.length) (nd : ns.Nodup) : shorts ρ (flat true ns) = (sortN ns).filter fun s => decide (ρ s < lmin (oth (sortN ns) ρ s)) := by
  unfold shorts
  rw [flat_names]
  refine List.filter_congr fun s hs => ?_
  have hs' : s ∈ ns := mem_sortN.mp hs
  rw [target_both nd (sortN_perm ns) hs', num_both]
  have e : lmin (ns.map ρ) = min (ρ s) (lmin (oth (sortN ns) ρ s)) := by
    have p1 : (ns.map ρ).Perm (ρ s :: oth (sortN ns) ρ s) := ((sortN_perm ns).symm.trans (List.perm_cons_erase hs)).map ρ
    rw [lmin_perm p1, lmin_cons]
    intro z
    have := congrArg List.length z
    unfold oth at this
    rw [List.length_map, List.length_erase_of_mem hs, sortN_len] at this
    simp at this
    omega
  rw [e]
  by_cases c : ρ s < lmin (oth (sortN ns) ρ s)
  · rw [if_pos (by omega), decide_eq_true c]; rfl
  · rw [if_neg (by omega), decide_eq_false c]; rfl
theorem shorts_either (nd : ns.Nodup) : shorts ρ (flat false ns) = sortN ns := by
  unfold shorts
  rw [flat_names, List.filter_eq_self]
  intro s hs
  rw [target_either nd (sortN_perm ns) (mem_sortN.mp hs)]
  rfl
theorem ends_flat (L : List Str) : (ns.map Fm.kind).map (endless ρ L) = ns.map fun s => if s ∈ L then none else some (ρ s) := by
  rw [List.map_map]
  exact List.map_congr_left fun x _ => endless_kind ρ L x
theorem endless_but (hs : s ∈ ns) : endless ρ ((sortN ns).filter fun y => decide (y ≠ s)) (flat true ns) = some (ρ s) := by
  unfold flat
  rw [endless_and, ends_flat]
  have hn : s ∉ (sortN ns).filter fun y => decide (y ≠ s) := fun z => by simpa using (List.mem_filter.mp z).2
  refine oMin_is (List.mem_map.mpr ⟨s, hs, if_neg hn⟩) fun k hk => ?_
  obtain ⟨y, hy, e⟩ := List.mem_map.mp hk
  by_cases c : y = s
  · subst c
    rw [if_neg hn] at e
    rw [Option.some.inj e]
    exact Int.le_refl _
  · rw [if_pos (List.mem_filter.mpr ⟨mem_sortN.mpr hy, decide_eq_true c⟩)] at e
    cases e
theorem endless_whole : endless ρ (sortN ns) (flat true ns) = none := by
  unfold flat
  rw [endless_and, ends_flat]
  refine oMin_none.mpr fun x hx => ?_
  obtain ⟨y, hy, rfl⟩ := List.mem_map.mp hx
  exact if_pos (mem_sortN.mpr hy)
theorem endless_one (hs : s ∈ ns) : endless ρ [s] (flat false ns) = none := by
  unfold flat
  rw [endless_or, ends_flat]
  exact oSum_none.mpr (List.mem_map.mpr ⟨s, hs, if_pos (List.mem_singleton.mpr rfl)⟩)
theorem endless_no : endless ρ [] (flat false ns) = some (ns.map ρ).sum := by
  unfold flat
  rw [endless_or, ends_flat, ← oSum_map, List.map_map]
  congr 1
theorem pool_fun : ∀ {Ks : List Str} {ps : List Int}, Ks.Nodup → ps.length = Ks.length → ∃ ρ : Str → Int, Ks.map ρ = ps
  | [], [], _, _ => ⟨fun _ => 0, rfl⟩
  | k :: r, p :: ps, nd, h => by
    obtain ⟨n1, n2⟩ := List.nodup_cons.mp nd
    obtain ⟨ρ, e⟩ := pool_fun n2 (Nat.succ.inj h)
    refine ⟨put ρ k p, ?_⟩
    rw [List.map_cons, put_same, ← e]
    congr 1
    exact List.map_congr_left fun y hy => put_ne fun z => n1 (z ▸ hy)
end
theorem rng_pick {β : Type} (F : Str → Option β) : ∀ Ks : List Str, (List.range Ks.length).filterMap (fun i => F (Ks.getD i Str.empty)) = Ks.filterMap F
  | [] => rfl
  | k :: r => by
    rw [List.length_cons, range_cons, List.filterMap_cons, List.filterMap_map, List.filterMap_cons, ← rng_pick F r]
    rfl
end K23
/-! V12: _law_flat_right. -/
namespace K23
open PySem PySem.Spec PyProof.Rows L2
section
variable {T : Tl} {P : Program} {w : World} {K : PySem.W.Frag} {mg : Str → Option Value} {base : Heap} {A : Nat → Addr} {D : Nat → FuncData}
theorem amts_of {α : Type} : ∀ {as : List α} {ds : List PyData}, Paired (fun _ d => ∃ r : Int, d = .int r ∧ 0 ≤ r ∧ r ≤ 10 ^ 18) as ds → ∃ ps : List Int, ds = ps.map .int ∧ ps.length = as.length ∧ ∀ p ∈ ps, 0 ≤ p ∧ p ≤ 10 ^ 18
  | _, _, .nil => ⟨[], rfl, rfl, fun p hp => nomatch hp⟩
  | _, _, .cons ⟨r, h1, h2, h3⟩ t => by
    obtain ⟨ps, e1, e2, e3⟩ := amts_of t
    refine ⟨r :: ps, by rw [h1, e1]; rfl, by rw [List.length_cons, e2, List.length_cons], fun p hp => ?_⟩
    rcases List.mem_cons.mp hp with e | e
    · rw [e]; exact ⟨h2, h3⟩
    · exact e3 p e
theorem seq_id {t r : TS} {D : Ends} {σ : L2.St} {H : Hp} (h : t { D with nx := r D } σ H) : tSeq t r D σ H := h
theorem asg_id {te : TE} {g : TG} {D : Ends} {σ : L2.St} {H : Hp} (h : te σ H fun x H1 => g x σ H1 D.nx) : tAsg te g D σ H := h
theorem tup_id {t : TA} {σ : L2.St} {H : Hp} {Q : VK} (h : t σ H fun xs H1 => xs.length ≤ sizeLine ∧ ∀ p, H1 p = none → Q (.ref p) (upd H1 p (.tup xs))) : tTup t σ H Q := h
theorem cons_id {t : TE} {r : TA} {σ : L2.St} {H : Hp} {Q : List V → Hp → Prop} (h : t σ H fun x H1 => r σ H1 fun xs H2 => Q (x :: xs) H2) : tCons t r σ H Q := h
/-- what _law_flat_right made -/
structure FlatAt (K : PySem.W.Frag) (H : Hp) (bv ev : V) (pp kl : Addr) (ns : List Str) (ρ : Str → Int) : Prop where
  dB : Dp K H bv (enc (flat true ns))
  dE : Dp K H ev (enc (flat false ns))
  hp : SqT K H pp (((sortN ns).map ρ).map V.int)
  hk : H kl = some (.lst ((sortN ns).map V.str))
  h4 : 4 ≤ ns.length
  h8 : ns.length ≤ 8
  nd : ns.Nodup
  nm : ∀ s ∈ ns, IsNm s
  h0 : ∀ s ∈ ns, 0 ≤ ρ s ∧ ρ s ≤ 10 ^ 18
theorem FlatAt.ex {H H' : Hp} {bv ev : V} {pp kl : Addr} {ns : List Str} {ρ : Str → Int} (a : FlatAt K H bv ev pp kl ns ρ) (e : Ex T H H') : FlatAt K H' bv ev pp kl ns ρ :=
  ⟨e.dp a.dB, e.dp a.dE, e.st a.hp, e.lst a.hk, a.h4, a.h8, a.nd, a.nm, a.h0⟩
theorem FlatAt.ok {H : Hp} {bv ev : V} {pp kl : Addr} {ns : List Str} {ρ : Str → Int} {b : Bool} (a : FlatAt K H bv ev pp kl ns ρ) : FmOk (flat b ns) := flat_ok (by have := a.h4; omega) a.h8 a.nd a.nm
theorem FlatAt.pool {H : Hp} {bv ev : V} {pp kl : Addr} {ns : List Str} {ρ : Str → Int} {b : Bool} (a : FlatAt K H bv ev pp kl ns ρ) : PoolAt K H pp (flat b ns).names ρ :=
  ⟨by rw [flat_names, pool_map]; exact a.hp, by rw [flat_names]; exact a.h0⟩
theorem sum_small {l : List Int} {C : Int} (hC : 0 ≤ C) (h : ∀ x ∈ l, 0 ≤ x ∧ x ≤ C) : 0 ≤ l.sum ∧ l.sum ≤ C * l.length := by
  induction l with
  | nil => exact ⟨Int.le_refl _, by rw [List.length_nil, List.sum_nil]; simp⟩
  | cons x r ih =>
    have h1 := h x List.mem_cons_self
    have h2 := ih fun y hy => h y (List.mem_cons_of_mem _ hy)
    rw [List.sum_cons, List.length_cons]
    have e : C * ((r.length + 1 : Nat) : Int) = C * (r.length : Int) + C := by rw [Int.natCast_add, Int.mul_add]; simp
    rw [e]
    omega
theorem oth_ev {H : Hp} {σ : L2.St} {Q : VK} {pp : Addr} {Ks : List Str} {ρ : Str → Int} {s : Str} {i j : Nat} (h4 : σ[4]? = some (some (.ref pp))) (hj : σ[j]? = some (some (.int (i : Int)))) (hp : SqT K H pp ((Ks.map ρ).map V.int)) (nd : Ks.Nodup) (hs : Ks[i]? = some s) (few : Ks.length ≤ 8)
    (q : ∀ H' p, Ex T H H' → SqT K H' p ((oth Ks ρ s).map V.int) → Q (.ref p) H') :
    tOp (rCatA K) (tSl (rSlA K) (tVar 4) tNoPart (tPart (tVar j))) (tSl (rSlA K) (tVar 4) (tPart (tOp (rI0 fun i j => V.int (i + j)) (tVar j) (tC (V.int 1)))) tNoPart) σ H Q := by
  refine ⟨_, h4, _, hj, _, rfl, take_sq (T := T) hp fun H1 p1 e1 h1 => ?_⟩
  refine ⟨_, h4, _, hj, (i : Int), 1, rfl, rfl, (i : Int) + 1, rfl, ?_⟩
  refine drop_sq' (T := T) (Q := fun y H2 => rCatA K (.ref p1) y H2 Q) (k := i + 1) (z := (i : Int) + 1) (by omega) (e1.st hp) fun H2 p2 e2 h2 => ?_
  refine cat_sq (T := T) (e2.st h1) h2 (by rw [List.length_take, List.length_drop, List.length_map, List.length_map]; omega) fun H3 p3 e3 h3 => q H3 p3 ((e1.trans e2).trans e3) ?_
  rw [oth_at nd hs, List.map_append, List.map_take, List.map_drop]
  exact h3
theorem oth_ne {Ks : List Str} {ρ : Str → Int} {s : Str} (hs : s ∈ Ks) (h : 2 ≤ Ks.length) : oth Ks ρ s ≠ [] := fun z => by
  have := congrArg List.length z
  unfold oth at this
  rw [List.length_map, List.length_erase_of_mem hs] at this
  simp at this
  omega
theorem ref_inj {a b : Addr} : V.ref a = V.ref b → a = b := fun z => V.ref.inj z
def spFR (T : Tl) : Sp := fun vs H Q _ => ∃ (h : Addr), vs = [.ref h] ∧ Dh H h ∧ ∀ H', Ex T H H' → Q (.bl true) H'
theorem ok_flat_right (U : Txt K mg A D) : FnG P w K mg base 60 (A 61) (D 61) ["_law_heap_here"] (spFR T) := by
  have G_needed : FnOk P w K mg base CX0 49 (A 26) (D 26) ["formula", "pool", "kind", "many"] (spNeed T K) := ok_needed U
  have G_short_kinds : FnOk P w K mg base CX0 49 (A 27) (D 27) ["formula", "pool"] (spShort T K) := ok_short_kinds U
  have G_pieces_with_plenty : FnOk P w K mg base CX0 28 (A 29) (D 29) ["formula", "pool", "lot"] (spPlenty T K) := ok_pieces_with_plenty U
  have G_l_draw := ok_draw (T := T) (P := P) (w := w) (base := base) U
  have G_l_pick := ok_pick (T := T) (P := P) (w := w) (base := base) U
  have G_l_amount := ok_amount (T := T) (P := P) (w := w) (base := base) U
  have G_l_names := ok_names (T := T) (P := P) (w := w) (base := base) U
  refine okG (F_l_flat_right U) sc_l_flat_right (fun vs H Q E h => by obtain ⟨_, rfl, _⟩ := h; rfl) (fun cdv A' outer s H vs Q E hr hG h => ?_)
  obtain ⟨h, rfl, hh, q⟩ := h
  refine ⟨_, PSs.nox (pss_cons
      (ps_set (i := 1) sc_l_flat_right.nd rfl (.inl rfl) (pe_op op_add pe_int (pe_f G_l_draw hr (by omega) (g_l_draw U) (F_l_draw U).kp (b_l_draw U) (pa_cons (pv 0) (pa_cons pe_int pa_nil)))))
      (pss_cons
      (ps_asg (pe_tup (pa_cons (pe_f G_l_names hr (by omega) (g_l_names U) (F_l_names U).kp (b_l_names U) (pa_cons (pv 0) (pa_cons (pv 1) pa_nil))) (pa_cons (pe_callTy (kc_tuple K) (by rfl) (z_tuple U) boot_tuple (pa_cons (pe_lc (g := gName 2) (tt := tYes) rfl sc_l_flat_right.nd (pi_range1 (by rfl) (z_range U) (pa_cons (pv 1) pa_nil)) (blkOk_by (N := N_l_flat_right) (own := [("_law_at", 2)]) (by kernel_rfl)) (fun _ _ _ _ _ => (pg_name (i := 2) sc_l_flat_right.nd rfl (.inl rfl))) (fun _ _ _ _ _ => pts_nil) (fun _ _ _ _ _ => (pe_f G_l_pick hr (by omega) (g_l_pick U) (F_l_pick U).kp (b_l_pick U) (pa_cons (pv 0) (pa_cons (pe_lst (pa_cons pe_int (pa_cons pe_int (pa_cons (pe_f G_l_amount hr (by omega) (g_l_amount U) (F_l_amount U).kp (b_l_amount U) (pa_cons (pv 0) pa_nil)) pa_nil)))) pa_nil))))) pa_nil)) pa_nil))) (kg_tup K (n := 2) (pgs_cons (pg_name (i := 3) sc_l_flat_right.nd rfl (.inl rfl)) (pgs_cons (pg_name (i := 4) sc_l_flat_right.nd rfl (.inr rfl)) pgs_nil))))
      (pss_cons
      (ps_asg (pe_tup (pa_cons (pe_tup (pa_cons pe_str (pa_cons (pe_callTy (kc_tuple K) (by rfl) (z_tuple U) boot_tuple (pa_cons (pe_lc (g := gName 13) (tt := tYes) rfl sc_l_flat_right.nd (ki_list K (pv 3)) (blkOk_by (N := N_l_flat_right) (own := [("_law_name", 13)]) (by kernel_rfl)) (fun _ _ _ _ _ => (pg_name (i := 13) sc_l_flat_right.nd rfl (.inl rfl))) (fun _ _ _ _ _ => pts_nil) (fun _ _ _ _ _ => (pe_tup (pa_cons pe_str (pa_cons (pv 13) pa_nil))))) pa_nil)) pa_nil))) (pa_cons (pe_tup (pa_cons pe_str (pa_cons (pe_callTy (kc_tuple K) (by rfl) (z_tuple U) boot_tuple (pa_cons (pe_lc (g := gName 13) (tt := tYes) rfl sc_l_flat_right.nd (ki_list K (pv 3)) (blkOk_by (N := N_l_flat_right) (own := [("_law_name", 13)]) (by kernel_rfl)) (fun _ _ _ _ _ => (pg_name (i := 13) sc_l_flat_right.nd rfl (.inl rfl))) (fun _ _ _ _ _ => pts_nil) (fun _ _ _ _ _ => (pe_tup (pa_cons pe_str (pa_cons (pv 13) pa_nil))))) pa_nil)) pa_nil))) (pa_cons (pe_callB (kc_sortedS K) (by rfl) (z_sorted U) boot_sorted (pa_cons (pv 3) pa_nil)) pa_nil)))) (kg_tup K (n := 3) (pgs_cons (pg_name (i := 5) sc_l_flat_right.nd rfl (.inl rfl)) (pgs_cons (pg_name (i := 6) sc_l_flat_right.nd rfl (.inl rfl)) (pgs_cons (pg_name (i := 7) sc_l_flat_right.nd rfl (.inr rfl)) pgs_nil)))))
      (pss_cons
      (ps_set (i := 2) sc_l_flat_right.nd rfl (.inr rfl) (pe_f G_l_draw hr (by omega) (g_l_draw U) (F_l_draw U).kp (b_l_draw U) (pa_cons (pv 0) (pa_cons (pv 1) pa_nil))))
      (pss_cons
      (ps_set (i := 8) sc_l_flat_right.nd rfl (.inl rfl) (pe_op (ko_cat K) (pe_slice (ks_tup K) (pv 4) po_none (po_some (pv 2))) (pe_slice (ks_tup K) (pv 4) (po_some (pe_op op_add (pv 2) pe_int)) po_none)))
      (pss_cons
      (ps_for PassesOwn.never rfl (ki_list K (pe_lst (pa_cons (pe_callB (kc_minT K hr.units) (by rfl) (z_min U) boot_min (pa_cons (pv 8) pa_nil)) (pa_cons (pe_op op_add (pe_callB (kc_minT K hr.units) (by rfl) (z_min U) boot_min (pa_cons (pv 8) pa_nil)) pe_int) (pa_cons (pe_op op_add (pe_callB (kc_sumT K) (by rfl) (z_sum U) boot_sum (pa_cons (pv 8) pa_nil)) (pe_f G_l_draw hr (by omega) (g_l_draw U) (F_l_draw U).kp (b_l_draw U) (pa_cons (pv 0) (pa_cons pe_int pa_nil)))) (pa_cons (pe_f G_l_draw hr (by omega) (g_l_draw U) (F_l_draw U).kp (b_l_draw U) (pa_cons (pv 0) (pa_cons pe_int pa_nil))) pa_nil)))))) (pg_name (i := 9) sc_l_flat_right.nd rfl (.inl rfl))
       (pss_cons
       (ps_if (pt_cmpR op_ne (pe_callB (kc_repr K hG hr.units) (by rfl) (z_repr U) boot_repr (pa_cons (pe_f G_needed hr (by omega) (g_needed U) (F_needed U).kp (b_needed U) (pa_cons (pv 5) (pa_cons (pv 4) (pa_cons (pe_ix (kx_list K) (pv 7) (pv 2) (fun _ _ => rfl)) (pa_cons (pv 9) pa_nil))))) pa_nil)) (pe_callB (kc_repr K hG hr.units) (by rfl) (z_repr U) boot_repr (pa_cons (pe_ifExp (pt_cmpR op_le (pv 9) (pe_callB (kc_minT K hr.units) (by rfl) (z_min U) boot_min (pa_cons (pv 8) pa_nil)) (nomark _)) (pv 9) pe_non) pa_nil)) (nomark _))
        (pss_one
        (ps_ret pe_bl))
        pss_nil)
       (pss_one
       (ps_if (pt_cmpR op_ne (pe_callB (kc_repr K hG hr.units) (by rfl) (z_repr U) boot_repr (pa_cons (pe_f G_needed hr (by omega) (g_needed U) (F_needed U).kp (b_needed U) (pa_cons (pv 6) (pa_cons (pv 4) (pa_cons (pe_ix (kx_list K) (pv 7) (pv 2) (fun _ _ => rfl)) (pa_cons (pv 9) pa_nil))))) pa_nil)) (pe_callB (kc_repr K hG hr.units) (by rfl) (z_repr U) boot_repr (pa_cons (pe_callB (call_max2 rfl) (by rfl) (z_max U) boot_max (pa_cons pe_int (pa_cons (pe_op op_sub (pv 9) (pe_callB (kc_sumT K) (by rfl) (z_sum U) boot_sum (pa_cons (pv 8) pa_nil))) pa_nil))) pa_nil)) (nomark _))
        (pss_one
        (ps_ret pe_bl))
        pss_nil))))
      (pss_cons
      (ps_set (i := 10) sc_l_flat_right.nd rfl (.inl rfl) (pe_callTy (kc_tuple K) (by rfl) (z_tuple U) boot_tuple (pa_cons (pe_lc (g := gName 12) rfl sc_l_flat_right.nd (pi_range1 (by rfl) (z_range U) (pa_cons (pv 1) pa_nil)) (blkOk_by (N := N_l_flat_right) (own := [("_law_k", 12)]) (by kernel_rfl)) (fun _ _ _ _ _ => (pg_name (i := 12) sc_l_flat_right.nd rfl (.inl rfl))) (fun _ _ _ _ _ => (pts_one (pt_cmpR op_lt (pe_ix (kx_tup K) (pv 4) (pv 12) (fun _ _ => rfl)) (pe_callB (kc_minT K hr.units) (by rfl) (z_min U) boot_min (pa_cons (pe_op (ko_cat K) (pe_slice (ks_tup K) (pv 4) po_none (po_some (pv 12))) (pe_slice (ks_tup K) (pv 4) (po_some (pe_op op_add (pv 12) pe_int)) po_none)) pa_nil)) (nomark _)))) (fun _ _ _ _ _ => (pe_ix (kx_list K) (pv 7) (pv 12) (fun _ _ => rfl)))) pa_nil)))
      (pss_cons
      (ps_if (PW.pt (pw_or (pt_cmpR op_ne (pe_callB (kc_repr K hG hr.units) (by rfl) (z_repr U) boot_repr (pa_cons (pe_f G_short_kinds hr (by omega) (g_short_kinds U) (F_short_kinds U).kp (b_short_kinds U) (pa_cons (pv 5) (pa_cons (pv 4) pa_nil))) pa_nil)) (pe_callB (kc_repr K hG hr.units) (by rfl) (z_repr U) boot_repr (pa_cons (pv 10) pa_nil)) (nomark _)) (pw_or1 (pt_cmpR op_ne (pe_callB (kc_repr K hG hr.units) (by rfl) (z_repr U) boot_repr (pa_cons (pe_f G_short_kinds hr (by omega) (g_short_kinds U) (F_short_kinds U).kp (b_short_kinds U) (pa_cons (pv 6) (pa_cons (pv 4) pa_nil))) pa_nil)) (pe_callB (kc_repr K hG hr.units) (by rfl) (z_repr U) boot_repr (pa_cons (pe_callTy (kc_tuple K) (by rfl) (z_tuple U) boot_tuple (pa_cons (pv 7) pa_nil)) pa_nil)) (nomark _)))))
       (pss_one
       (ps_ret pe_bl))
       pss_nil)
      (pss_cons
      (ps_set (i := 11) sc_l_flat_right.nd rfl (.inl rfl) (pe_callTy (kc_tuple K) (by rfl) (z_tuple U) boot_tuple (pa_cons (pe_lc (g := gName 12) rfl sc_l_flat_right.nd (pi_range1 (by rfl) (z_range U) (pa_cons (pv 1) pa_nil)) (blkOk_by (N := N_l_flat_right) (own := [("_law_k", 12)]) (by kernel_rfl)) (fun _ _ _ _ _ => (pg_name (i := 12) sc_l_flat_right.nd rfl (.inl rfl))) (fun _ _ _ _ _ => (pts_one (pt_cmpR op_ne (pv 12) (pv 2) (nomark _)))) (fun _ _ _ _ _ => (pe_ix (kx_list K) (pv 7) (pv 12) (fun _ _ => rfl)))) pa_nil)))
      (pss_cons
      (ps_if (PW.pt (pw_or (pt_cmpR op_ne (pe_callB (kc_repr K hG hr.units) (by rfl) (z_repr U) boot_repr (pa_cons (pe_f G_pieces_with_plenty hr (by omega) (g_pieces_with_plenty U) (F_pieces_with_plenty U).kp (b_pieces_with_plenty U) (pa_cons (pv 5) (pa_cons (pv 4) (pa_cons (pv 11) pa_nil)))) pa_nil)) (pe_callB (kc_repr K hG hr.units) (by rfl) (z_repr U) boot_repr (pa_cons (pe_ix (kx_tup K) (pv 4) (pv 2) (fun _ _ => rfl)) pa_nil)) (nomark _)) (pw_or1 (pt_cmpR op_notN (pe_f G_pieces_with_plenty hr (by omega) (g_pieces_with_plenty U) (F_pieces_with_plenty U).kp (b_pieces_with_plenty U) (pa_cons (pv 5) (pa_cons (pv 4) (pa_cons (pe_callTy (kc_tuple K) (by rfl) (z_tuple U) boot_tuple (pa_cons (pv 7) pa_nil)) pa_nil)))) pe_non (nomark _)))))
       (pss_one
       (ps_ret pe_bl))
       pss_nil)
      (pss_one
      (ps_ret (pe_and (pe_cmpR op_isN (pe_f G_pieces_with_plenty hr (by omega) (g_pieces_with_plenty U) (F_pieces_with_plenty U).kp (b_pieces_with_plenty U) (pa_cons (pv 6) (pa_cons (pv 4) (pa_cons (pe_tup (pa_cons (pe_ix (kx_list K) (pv 7) (pv 2) (fun _ _ => rfl)) pa_nil)) pa_nil)))) pe_non (nomark _)) (pe_one (pe_cmpR op_eq (pe_callB (kc_repr K hG hr.units) (by rfl) (z_repr U) boot_repr (pa_cons (pe_f G_pieces_with_plenty hr (by omega) (g_pieces_with_plenty U) (F_pieces_with_plenty U).kp (b_pieces_with_plenty U) (pa_cons (pv 6) (pa_cons (pv 4) (pa_cons (pe_tup pa_nil) pa_nil)))) pa_nil)) (pe_callB (kc_repr K hG hr.units) (by rfl) (z_repr U) boot_repr (pa_cons (pe_callB (kc_sumT K) (by rfl) (z_sum U) boot_sum (pa_cons (pv 4) pa_nil)) pa_nil)) (nomark _)))))))))))))))), ?_⟩
  refine ⟨_, rfl, h, 5, rfl, hh, by decide, by decide, fun H1 d e1 d0 d1 => ⟨4, d, rfl, rfl, ?_⟩⟩
  obtain ⟨n, hn⟩ : ∃ n : Nat, 4 + d = (n : Int) := ⟨(4 + d).toNat, by omega⟩
  dsimp only
  rw [hn]
  refine ⟨_, rfl, _, rfl, h, n, rfl, hh.ex e1, by omega, by omega, fun H2 nl ns fn e2 hnl nlen nnd nnm _ => ?_⟩
  have e12 := e1.trans e2
  refine ⟨_, rfl, (n : Int), rfl, by omega, by omega, fun D hD => ?_⟩
  rw [Int.toNat_natCast]
  refine map_rel (T := T) (K := K) (as := List.range n) (fun _ d => ∃ r : Int, d = .int r ∧ 0 ≤ r ∧ r ≤ 10 ^ 18) (walk_range (n := n)) List.length_range (by omega) (fun _ _ => trivial) hD (fun _ _ ⟨_, h, _⟩ => by rw [h]; rfl) ?_ ?_
  · rintro j x0 y H3 H4 E _ e3 ⟨rfl, _⟩ hE
    refine ⟨rfl, _, rfl, _, rfl, h, rfl, (hh.ex e12).ex e3, fun H5 r e5 r0 r1 => ⟨sz_ok (n := 3) (by decide), fun pl hpl => ?_⟩⟩
    have e6 : Ex T H5 (upd H5 pl (.lst [.int 3, .int 4, .int r])) := Ex.new hpl
    refine ⟨h, pl, [.int 3, .int 4, .int r], rfl, (((hh.ex e12).ex e3).ex e5).ex e6, .inl (.inl (.inl upd_same)), Nat.zero_lt_succ _, Nat.le_trans (Nat.le_refl 3) (by decide), fun H7 x i e7 hx => ?_⟩
    obtain ⟨b, rfl, b0, b1⟩ : ∃ b : Int, x = .int b ∧ 0 ≤ b ∧ b ≤ 10 ^ 18 := by
      match i, hx with
      | 0, hx => exact ⟨3, (Option.some.inj hx).symm, by decide, by decide⟩
      | 1, hx => exact ⟨4, (Option.some.inj hx).symm, by decide, by decide⟩
      | 2, hx => exact ⟨r, (Option.some.inj hx).symm, r0, r1⟩
    exact hE _ ⟨b, rfl, b0, b1⟩ _ H7 ((e5.trans e6).trans e7) (.int b)
  intro ys H3 ds e3 h3 hP hy
  obtain ⟨ps, rfl, plen, hps⟩ := amts_of hP
  rw [List.length_range] at plen
  have := dpa_ints hy
  subst this
  refine ⟨D, _, rfl, .inl ⟨.inl (.inl h3), fun pp hpp => ⟨sz_ok (n := 2) (by decide), fun tp htp => ?_⟩⟩⟩
  have e45 : Ex T H3 (upd (upd H3 pp (.tup (ps.map V.int))) tp (.tup [.ref nl, .ref pp])) := (Ex.new hpp).trans (Ex.new htp)
  refine ⟨tp, _, rfl, .inl (.inl upd_same), rfl, _, _, rfl, _, _, rfl, rfl, ?_⟩
  have hpp5 : SqT K (upd (upd H3 pp (.tup (ps.map V.int))) tp (.tup [.ref nl, .ref pp])) pp (ps.map V.int) := (Ex.new (T := T) htp).st (.inl (.inl upd_same))
  have hnl5 := (e3.trans e45).lst hnl
  have e15 := e12.trans (e3.trans e45)
  generalize (upd (upd H3 pp (.tup (ps.map V.int))) tp (.tup [.ref nl, .ref pp])) = H5 at *
  have mk : ∀ (b : Bool) (H6 : Hp) (wd : Str) (Q1 : VK), wd = (if b = true then ("and" : Str) else ("or" : Str)) → Ex T H5 H6 → (∀ H7 v, Ex T H6 H7 → Dp K H7 v (enc (flat b ns)) → Q1 v H7) →
      tTup (tCons (tC (V.str wd)) (tCons (tCB (rTupOf K) (tCons (tLc (iList K (tVar 3)) (gName 13) tYes (tTup (tCons (tC (V.str (Str.ofString "kind"))) (tCons (tVar 13) tNil))) (List.map (fun x : Str × Nat => x.snd) [(Str.ofString "_law_name", 13)])) tNil)) tNil))
        [some (.ref h), some (.int (n : Int)), none, some (.ref nl), some (.ref pp), none, none, none, none, none, none, none, none, none] H6 Q1 := by
    intro b H6 wd Q1 hw e6 q1
    refine ⟨_, rfl, nl, rfl, ⟨_, .inl (.inl (e6.lst hnl5))⟩, fun D2 hD2 => ?_⟩
    refine map_lst (T := T) (e := PyData.str) (as := ns) (.inl (.inl (e6.lst hnl5))) (dpa_of_strs _) (fun s => some (enc (.kind s))) (by omega) hD2 ?_ ?_
    · intro s x H7 E N hs e7 hx _ hE
      have := hx.at_str
      subst this
      refine ⟨rfl, _, rfl, sz_ok (n := 2) (by decide), fun t ht => hE _ rfl (.ref t) _ (Ex.new ht) (flat_enc _) ?_⟩
      rw [enc_kind]
      exact .tup (.inl (.inl upd_same)) (.cons (.str _) (.cons (.str _) .nil))
    · intro us H7 e7 h7 hu
      rw [fm_some] at hu
      refine ⟨D2, _, rfl, .inl ⟨.inl (.inl h7), fun ta hta => ⟨sz_ok (n := 2) (by decide), fun t ht => ?_⟩⟩⟩
      have e8 : Ex T H7 (upd H7 ta (.tup us)) := Ex.new hta
      have e9 : Ex T (upd H7 ta (.tup us)) (upd (upd H7 ta (.tup us)) t (.tup [.str wd, .ref ta])) := Ex.new ht
      refine q1 _ (.ref t) ((e7.trans e8).trans e9) ?_
      unfold flat
      rw [enc_node, List.map_map, ← hw]
      exact .tup (.inl (.inl upd_same)) (.cons (.str _) (.cons (.tup (e9.st (.inl (.inl upd_same))) ((e8.trans e9).dpa hu)) .nil))
  dsimp only
  refine seq_id (asg_id (tup_id (cons_id ?_)))
  refine mk true H5 "and" _ rfl (Ex.refl _) fun H6 bv e6 hbv => ?_
  refine cons_id ?_
  refine mk false H6 "or" _ rfl e6 fun H7 ev e7 hev => ?_
  have e57 := e6.trans e7
  refine ⟨_, rfl, nl, ns, rfl, .inl (.inl (e57.lst hnl5)), by omega, fun ks kl pm so hkl => ?_⟩
  obtain rfl : ks = sortN ns := sortedS_is pm so
  refine ⟨sz_ok (n := 3) (by decide), fun t9 ht9 => ?_⟩
  have e8 : Ex T H7 (upd H7 kl (.lst ((sortN ns).map V.str))) := Ex.new hkl
  have e9 : Ex T (upd H7 kl (.lst ((sortN ns).map V.str))) (upd (upd H7 kl (.lst ((sortN ns).map V.str))) t9 (.tup [bv, ev, .ref kl])) := Ex.new ht9
  refine ⟨t9, _, rfl, .inl (.inl upd_same), rfl, _, _, rfl, _, _, rfl, _, _, rfl, rfl, ?_⟩
  have ksn : (sortN ns).Nodup := (sortN_perm ns).nodup_iff.mpr nnd
  obtain ⟨ρ, hρ⟩ := pool_fun (ps := ps) ksn (by rw [sortN_len]; omega)
  have F : FlatAt K (upd (upd H7 kl (.lst ((sortN ns).map V.str))) t9 (.tup [bv, ev, .ref kl])) bv ev pp kl ns ρ :=
    ⟨((e7.trans e8).trans e9).dp hbv, (e8.trans e9).dp hev, by rw [hρ]; exact ((e57.trans e8).trans e9).st hpp5, e9.lst upd_same, by omega, by omega, nnd, nnm, fun s hs => hps _ (by rw [← hρ]; exact List.mem_map.mpr ⟨s, mem_sortN.mpr hs, rfl⟩)⟩
  have eA := e15.trans ((e57.trans e8).trans e9)
  generalize (upd (upd H7 kl (.lst ((sortN ns).map V.str))) t9 (.tup [bv, ev, .ref kl])) = HA at *
  have hKn : (sortN ns).length = n := by rw [sortN_len]; omega
  refine ⟨_, rfl, _, rfl, h, n, rfl, hh.ex eA, by omega, by omega, fun HB at' eB a0 a1 => ?_⟩
  obtain ⟨i, rfl⟩ : ∃ i : Nat, at' = (i : Int) := ⟨at'.toNat, by omega⟩
  have hi : i < (sortN ns).length := by omega
  obtain ⟨s, hs⟩ : ∃ s, (sortN ns)[i]? = some s := ⟨(sortN ns)[i], List.getElem?_eq_getElem hi⟩
  have hsK : s ∈ sortN ns := List.mem_of_getElem? hs
  have hsn : s ∈ ns := mem_sortN.mp hsK
  refine oth_ev (T := T) rfl rfl (eB.st F.hp) ksn hs (by omega) fun HC op eC hop => ?_
  have FC := (F.ex eB).ex eC
  have eAC := (eA.trans eB).trans eC
  have one : oth (sortN ns) ρ s ≠ [] := oth_ne hsK (by omega)
  have osm := sum_small (l := oth (sortN ns) ρ s) (C := 10 ^ 18) (by decide) fun x hx => by
    obtain ⟨y, hy, rfl⟩ := List.mem_map.mp hx
    exact F.h0 y (mem_sortN.mp (List.mem_of_mem_erase hy))
  have olen : (oth (sortN ns) ρ s).length ≤ 8 := by
    unfold oth
    rw [List.length_map]
    exact Nat.le_trans List.length_erase_le (by omega)
  have o1 : 0 ≤ lmin (oth (sortN ns) ρ s) ∧ lmin (oth (sortN ns) ρ s) ≤ 10 ^ 18 := by
    obtain ⟨y, hy, e⟩ := List.mem_map.mp (lmin_mem one)
    have e : ρ y = lmin (oth (sortN ns) ρ s) := e
    rw [← e]
    exact F.h0 y (mem_sortN.mp (List.mem_of_mem_erase hy))
  have o2 : (oth (sortN ns) ρ s).sum ≤ 8 * 10 ^ 18 := Int.le_trans osm.2 (by have : (10 : Int) ^ 18 * ((oth (sortN ns) ρ s).length : Int) ≤ 10 ^ 18 * 8 := Int.mul_le_mul_of_nonneg_left (by omega) (by decide); omega)
  have hkat : atI ((sortN ns).map V.str) (i : Int) = some (.str s) := atI_nat (by rw [List.getElem?_map, hs]; rfl)
  -- the four numbers
  refine ⟨_, rfl, op, _, rfl, hop, one, _, rfl, op, _, rfl, hop, one, _, 1, rfl, rfl, _, rfl, op, _, rfl, hop, _, rfl, h, 9, rfl, hh.ex eAC, by decide, by decide, fun HD r1 eD r10 r11 => ⟨_, r1, rfl, rfl, _, rfl, h, 9, rfl, (hh.ex eAC).ex eD, by decide, by decide, fun HE r2 eE r20 r21 => ⟨sz_ok (n := 4) (by decide), fun fl hfl => ?_⟩⟩⟩
  have eF : Ex T HE (upd HE fl (.lst [.int (lmin (oth (sortN ns) ρ s)), .int (lmin (oth (sortN ns) ρ s) + 1), .int ((oth (sortN ns) ρ s).sum + r1), .int r2])) := Ex.new hfl
  have eCF := (eD.trans eE).trans eF
  refine ⟨fl, rfl, ⟨_, .inl (.inl upd_same)⟩, ?_⟩
  refine for_it (walk_list (xs := [.int (lmin (oth (sortN ns) ρ s)), .int (lmin (oth (sortN ns) ρ s) + 1), .int ((oth (sortN ns) ρ s).sum + r1), .int r2])) (fun j σ H' => ∃ y9 : Option V, σ = [some (.ref h), some (.int (n : Int)), some (.int (i : Int)), some (.ref nl), some (.ref pp), some bv, some ev, some (.ref kl), some (.ref op), y9, none, none, none, none] ∧ Ex T HC H' ∧
    H' fl = some (.lst [.int (lmin (oth (sortN ns) ρ s)), .int (lmin (oth (sortN ns) ρ s) + 1), .int ((oth (sortN ns) ρ s).sum + r1), .int r2])) ⟨none, rfl, eCF, upd_same⟩ ?_ ?_ ?_
  · rintro j σ H' _ ⟨_, _, _, e⟩
    exact .inl (.inl e)
  · rintro j x σ H3 H4 hj ⟨y9, rfl, e3, hfl3⟩ ⟨rfl, hx⟩
    obtain ⟨m, rfl, m0, m1⟩ : ∃ m : Int, x = .int m ∧ 0 ≤ m ∧ m ≤ 10 ^ 20 := by
      match j, hj, hx with
      | 0, _, hx => exact ⟨_, (Option.some.inj hx).symm, by omega, by omega⟩
      | 1, _, hx => exact ⟨_, (Option.some.inj hx).symm, by omega, by omega⟩
      | 2, _, hx => exact ⟨_, (Option.some.inj hx).symm, by omega, by omega⟩
      | 3, _, hx => exact ⟨_, (Option.some.inj hx).symm, by omega, by omega⟩
    have F4 := FC.ex e3
    have hop4 := e3.st hop
    refine seq_id (ifS_cps (fun _ => False) (fun H1 => Ex T H4 H1) (fun R _ r0 => ?_) (fun _ z => z.elim) (fun H5 e5 => ?_))
    · refine ⟨_, rfl, _, rfl, _, rfl, _, rfl, kl, _, (i : Int), _, rfl, rfl, .inl (.inl F4.hk), hkat, _, rfl, bv, flat true ns, pp, ρ, s, m, rfl, F4.dB, F4.ok, flat_dep, F4.pool, by rw [flat_names]; exact hsn, m0, fun H5 e5 => ?_⟩
      rw [need_both nnd (sortN_perm ns) hsn m0]
      by_cases z : m ≤ lmin (oth (sortN ns) ρ s)
      · rw [if_pos z]
        refine ⟨.int m, .int m, rfl, .int m, .int m (log_small m0 (by omega)), _, rfl, _, rfl, op, _, rfl, e5.st hop4, one, m, _, rfl, rfl, _, rfl, ?_⟩
        rw [decide_eq_true z]
        refine ⟨_, rfl, .int m, .int m, rfl, .int m, .int m (log_small m0 (by omega)), rfl, _, rfl, ?_⟩
        rw [decide_eq_true rfl]
        exact r0 _ e5
      · rw [if_neg z]
        refine ⟨.non, .none, rfl, .non, .none, _, rfl, _, rfl, op, _, rfl, e5.st hop4, one, m, _, rfl, rfl, _, rfl, ?_⟩
        rw [decide_eq_false z]
        refine ⟨.non, .none, rfl, .non, .none, rfl, _, rfl, ?_⟩
        rw [decide_eq_true rfl]
        exact r0 _ e5
    · unfold tNext
      dsimp only
      refine ifS_cps (fun _ => False) (fun H1 => Ex T H4 H1) (fun R _ r0 => ?_) (fun _ z => z.elim) (fun H6 e6 => ?_)
      · have F5 := F4.ex e5
        refine ⟨_, rfl, _, rfl, _, rfl, _, rfl, kl, _, (i : Int), _, rfl, rfl, .inl (.inl F5.hk), hkat, _, rfl, ev, flat false ns, pp, ρ, s, m, rfl, F5.dE, F5.ok, flat_dep, F5.pool, by rw [flat_names]; exact hsn, m0, fun H6 e6 => ?_⟩
        rw [need_either nnd (sortN_perm ns) hsn]
        have em : max 0 (m - (oth (sortN ns) ρ s).sum) = (if m - (oth (sortN ns) ρ s).sum > 0 then m - (oth (sortN ns) ρ s).sum else 0) := by split <;> omega
        have lg : (max 0 (m - (oth (sortN ns) ρ s).sum)).natAbs.log2 < 1920 := log_small (by omega) (by omega)
        refine ⟨.int _, .int _, rfl, .int _, .int _ lg, _, rfl, _, rfl, op, _, rfl, (e5.trans e6).st hop4, m, _, rfl, rfl, 0, _, rfl, ?_⟩
        rw [← em]
        refine ⟨.int _, .int _, rfl, .int _, .int _ lg, rfl, _, rfl, ?_⟩
        rw [decide_eq_true rfl]
        exact r0 _ (e5.trans e6)
      · exact ⟨_, rfl, e3.trans e6, e6.lst hfl3⟩
  · rintro σ H3 ⟨y9, rfl, e3, _⟩
    have F3 := FC.ex e3
    refine ⟨_, rfl, (n : Int), rfl, by omega, by omega, fun D5 hD5 => ?_⟩
    rw [Int.toNat_natCast, ← hKn]
    refine map_rng (T := T) (K := K) (fun k => if decide (ρ ((sortN ns).getD k Str.empty) < lmin (oth (sortN ns) ρ ((sortN ns).getD k Str.empty))) then some (.str ((sortN ns).getD k Str.empty)) else none) (by omega) hD5 ?_ ?_
    · rintro k x0 H4 E N hk e4 rfl g1 g2
      have F4 := F3.ex e4
      have hks : (sortN ns)[k]? = some ((sortN ns).getD k Str.empty) := by rw [List.getD_eq_getElem?_getD, List.getElem?_eq_getElem hk]; rfl
      have hkm := List.mem_of_getElem? hks
      refine ⟨rfl, _, rfl, _, rfl, pp, _, (k : Int), _, rfl, rfl, F4.hp, int_at (by rw [List.length_map]; exact hk), ?_⟩
      rw [show ((sortN ns).map ρ).getD k 0 = ρ ((sortN ns).getD k Str.empty) by rw [List.getD_eq_getElem?_getD, List.getElem?_map, hks]; rfl]
      refine oth_ev (T := T) (j := 12) rfl rfl F4.hp ksn hks (by omega) fun H5 op5 e5 hop5 => ?_
      refine ⟨op5, _, rfl, hop5, oth_ne hkm (by omega), _, _, rfl, rfl, _, rfl, if_dec (fun z => ?_) fun z => ?_⟩
      · exact ⟨_, rfl, _, rfl, kl, _, (k : Int), _, rfl, rfl, .inl (.inl (e5.lst F4.hk)), str_atI hk, g2 _ (if_pos (decide_eq_true z)) _ H5 e5 rfl (.str _)⟩
      · exact g1 (if_neg (by rw [decide_eq_false z]; decide)) H5 e5
    intro ys H4 e4 h4 hy
    rw [rng_pick (fun s => if decide (ρ s < lmin (oth (sortN ns) ρ s)) then some (PyData.str s) else none), fm_filter, ← shorts_both (by omega) nnd] at hy
    have := dpa_strs hy
    subst this
    refine ⟨D5, _, rfl, .inl ⟨.inl (.inl h4), fun sp hsp => ?_⟩⟩
    have e5 : Ex T H4 (upd H4 sp (.tup ((shorts ρ (flat true ns)).map V.str))) := Ex.new hsp
    have hsp5 : SqT K (upd H4 sp (.tup ((shorts ρ (flat true ns)).map V.str))) sp ((shorts ρ (flat true ns)).map V.str) := .inl (.inl upd_same)
    have F5 := (F3.ex e4).ex e5
    have e35 := e4.trans e5
    generalize (upd H4 sp (.tup ((shorts ρ (flat true ns)).map V.str))) = H5 at *
    have nmK : ∀ y ∈ sortN ns, IsNm y := fun y hy => nnm y (mem_sortN.mp hy)
    have nms : ∀ y ∈ shorts ρ (flat true ns), IsNm y := fun y hy => nmK y (by rw [shorts_both (by omega) nnd] at hy; exact (List.mem_filter.mp hy).1)
    have fs : (shorts ρ (flat true ns)).length ≤ 8 := by
      rw [shorts_both (by omega) nnd]
      exact Nat.le_trans (List.length_filter_le _ _) (by omega)
    dsimp only
    refine seq_id (ifS_cps (fun _ => False) (fun H1 => Ex T H5 H1) (fun R _ r0 => ?_) (fun _ z => z.elim) (fun H6 e6 => ?_))
    · refine ⟨_, rfl, _, rfl, bv, flat true ns, pp, ρ, rfl, F5.dB, F5.ok, flat_dep, F5.pool, fun H6 p6 f6 e6 h6 => ?_⟩
      refine ⟨.ref p6, .tuple ((shorts ρ (flat true ns)).map .str), rfl, .tup (SqT.of h6) (dpa_of_strs _), .nms _ nms (by omega), _, rfl, .ref sp, .tuple ((shorts ρ (flat true ns)).map .str), rfl, .tup (e6.st hsp5) (dpa_of_strs _), .nms _ nms (by omega), rfl, _, rfl, ?_⟩
      rw [decide_eq_true rfl]
      have F6 := F5.ex e6
      refine ⟨_, rfl, _, rfl, ev, flat false ns, pp, ρ, rfl, F6.dE, F6.ok, flat_dep, F6.pool, fun H7 p7 f7 e7 h7 => ?_⟩
      rw [shorts_either nnd] at h7
      refine ⟨.ref p7, .tuple ((sortN ns).map .str), rfl, .tup (SqT.of h7) (dpa_of_strs _), .nms _ nmK (by omega), _, rfl, kl, _, rfl, .inl ⟨.inl (.inl (e7.lst F6.hk)), fun p8 hp8 => ?_⟩⟩
      refine ⟨.ref p8, .tuple ((sortN ns).map .str), rfl, Dp.new_strs, .nms _ nmK (by omega), rfl, _, rfl, ?_⟩
      rw [decide_eq_true rfl]
      exact r0 _ ((e6.trans e7).trans (Ex.new hp8))
    unfold tNext
    dsimp only
    have F6 := F5.ex e6
    refine seq_id ?_
    refine ⟨_, rfl, ((sortN ns).length : Int), rfl, by omega, by omega, fun D7 hD7 => ?_⟩
    rw [Int.toNat_natCast]
    refine map_rng (T := T) (K := K) (fun k => if decide ((sortN ns).getD k Str.empty ≠ s) then some (.str ((sortN ns).getD k Str.empty)) else none) (by omega) hD7 ?_ ?_
    · rintro k x0 H7 E N hk e7 rfl g1 g2
      have hks : (sortN ns)[k]? = some ((sortN ns).getD k Str.empty) := by rw [List.getD_eq_getElem?_getD, List.getElem?_eq_getElem hk]; rfl
      have same : (k : Int) = (i : Int) ↔ (sortN ns).getD k Str.empty = s := by
        constructor
        · intro z
          have z : k = i := by omega
          rw [z] at hks ⊢
          rw [hs] at hks
          exact (Option.some.inj hks).symm
        · intro z
          rw [z] at hks
          have := nodup_ix ksn hks hs
          omega
      refine ⟨rfl, _, rfl, _, rfl, rfl, _, rfl, ?_⟩
      rw [show decide (V.int (k : Int) = V.int (i : Int)) = decide ((sortN ns).getD k Str.empty = s) from decide_eq_decide.mpr ⟨fun y => same.mp (V.int.inj y), fun y => by rw [same.mpr y]⟩, ← decide_not]
      refine if_dec (fun z => ?_) fun z => ?_
      · exact ⟨_, rfl, _, rfl, kl, _, (k : Int), _, rfl, rfl, .inl (.inl (e7.lst F6.hk)), str_atI hk, g2 _ (if_pos (decide_eq_true z)) _ H7 (Ex.refl _) rfl (.str _)⟩
      · exact g1 (if_neg (by rw [decide_eq_false z]; decide)) H7 (Ex.refl _)
    intro zs H7 e7 h7 hz
    rw [rng_pick (fun y => if decide (y ≠ s) then some (PyData.str y) else none), fm_filter] at hz
    have := dpa_strs hz
    subst this
    refine ⟨D7, _, rfl, .inl ⟨.inl (.inl h7), fun lp hlp => ?_⟩⟩
    have e8 : Ex T H7 (upd H7 lp (.tup (((sortN ns).filter fun y => decide (y ≠ s)).map V.str))) := Ex.new hlp
    have hlp8 : SqT K (upd H7 lp (.tup (((sortN ns).filter fun y => decide (y ≠ s)).map V.str))) lp (((sortN ns).filter fun y => decide (y ≠ s)).map V.str) := .inl (.inl upd_same)
    have F8 := (F6.ex e7).ex e8
    have e68 := e7.trans e8
    generalize (upd H7 lp (.tup (((sortN ns).filter fun y => decide (y ≠ s)).map V.str))) = H8 at *
    have lot : ∀ (b : Bool) (L : List Str), L.Sublist (sortN ns) → LotOk L (flat b ns).names ∧ L.length ≤ 8 := fun b L hL => ⟨lot_ok (by rw [flat_names]) ksn hL, Nat.le_trans hL.length_le (by omega)⟩
    have rs : 0 ≤ ρ s ∧ ρ s ≤ 10 ^ 18 := F.h0 s hsn
    have hat : atI (((sortN ns).map ρ).map V.int) (i : Int) = some (.int (ρ s)) := atI_nat (by rw [List.getElem?_map, List.getElem?_map, hs]; rfl)
    have tot : 0 ≤ (ns.map ρ).sum ∧ (ns.map ρ).sum ≤ 10 ^ 40 := by
      have := sum_small (l := ns.map ρ) (C := 10 ^ 18) (by decide) fun x hx => by
        obtain ⟨y, hy, rfl⟩ := List.mem_map.mp hx
        exact F.h0 y hy
      have h9 : (10 : Int) ^ 18 * ((ns.map ρ).length : Int) ≤ 10 ^ 18 * 8 := Int.mul_le_mul_of_nonneg_left (by rw [List.length_map]; omega) (by decide)
      omega
    dsimp only
    refine seq_id (ifS_cps (fun _ => False) (fun H1 => Ex T H8 H1) (fun R _ r0 => ?_) (fun _ z => z.elim) (fun H9 e9 => ?_))
    · obtain ⟨l1, l2⟩ := lot true _ (List.filter_sublist (p := fun y => decide (y ≠ s)) (l := sortN ns))
      refine ⟨_, rfl, _, rfl, _, rfl, bv, flat true ns, pp, lp, ρ, _, rfl, F8.dB, F8.ok, flat_dep, F8.pool, hlp8, by omega, l1, fun H9 e9 => ?_⟩
      rw [endless_but hsn]
      refine ⟨.int (ρ s), .int (ρ s), rfl, .int _, .int _ (log_small rs.1 (by omega)), _, rfl, _, rfl, pp, _, (i : Int), _, rfl, rfl, (F8.ex e9).hp, hat, .int (ρ s), .int (ρ s), rfl, .int _, .int _ (log_small rs.1 (by omega)), rfl, _, rfl, ?_⟩
      rw [decide_eq_true rfl]
      have F9 := F8.ex e9
      obtain ⟨l3, l4⟩ := lot true _ (List.Sublist.refl (sortN ns))
      refine ⟨_, rfl, _, rfl, _, rfl, kl, _, rfl, .inl ⟨.inl (.inl F9.hk), fun p10 hp10 => ?_⟩⟩
      have e10 : Ex T H9 (upd H9 p10 (.tup ((sortN ns).map V.str))) := Ex.new hp10
      have F10 := F9.ex e10
      refine ⟨bv, flat true ns, pp, p10, ρ, sortN ns, rfl, F10.dB, F10.ok, flat_dep, F10.pool, .inl (.inl upd_same), by omega, l3, fun H11 e11 => ?_⟩
      rw [endless_whole]
      exact ⟨rfl, _, rfl, r0 _ ((e9.trans e10).trans e11)⟩
    dsimp only
    have F9 := F8.ex e9
    obtain ⟨l3, l4⟩ := lot false [s] (List.singleton_sublist.mpr hsK)
    obtain ⟨l5, l6⟩ := lot false [] (List.nil_sublist _)
    refine ⟨_, rfl, _, rfl, _, rfl, _, rfl, kl, _, (i : Int), _, rfl, rfl, .inl (.inl F9.hk), hkat, sz_ok (n := 1) (by decide), fun p10 hp10 => ?_⟩
    have e10 : Ex T H9 (upd H9 p10 (.tup [.str s])) := Ex.new hp10
    have F10 := F9.ex e10
    refine ⟨ev, flat false ns, pp, p10, ρ, [s], rfl, F10.dE, F10.ok, flat_dep, F10.pool, .inl (.inl upd_same), by omega, l3, fun H11 e11 => ?_⟩
    rw [endless_one hsn]
    have F11 := F10.ex e11
    refine ⟨rfl, _, rfl, ?_⟩
    refine ⟨_, rfl, _, rfl, sz_ok (n := 0) (by decide), fun p12 hp12 => ?_⟩
    have e12' : Ex T H11 (upd H11 p12 (.tup [])) := Ex.new hp12
    have F12 := F11.ex e12'
    refine ⟨ev, flat false ns, pp, p12, ρ, [], rfl, F12.dE, F12.ok, flat_dep, F12.pool, .inl (.inl upd_same), by decide, l5, fun H13 e13 => ?_⟩
    rw [endless_no]
    have eZ := (((e9.trans e10).trans e11).trans e12').trans e13
    refine ⟨.int _, .int _, rfl, .int _, .int _ (log_small tot.1 tot.2), _, rfl, pp, _, rfl, (F12.ex e13).hp, ?_⟩
    rw [show ((sortN ns).map ρ).sum = (ns.map ρ).sum from sum_perm ((sortN_perm ns).map ρ)]
    refine ⟨.int _, .int _, rfl, .int _, .int _ (log_small tot.1 tot.2), rfl, ?_⟩
    rw [decide_eq_true rfl]
    exact q _ (eAC.trans (((e3.trans e35).trans (e6.trans e68)).trans eZ))
end
end K23
set_option maxHeartbeats 2000000
/-! S10: t[::-1], t a tuple. -/
namespace K23
open PySem PySem.Spec PyProof.Rows L2
section
variable {prog : Program} {w : World} {A : Around} {E : Value → Shared → Prop} {s : Shared}
theorem adjust_back (n : Nat) : Builtin.Slice.sliceAdjust none none (-1) (n : Int) = ((n : Int) - 1, -1) := by
  unfold Builtin.Slice.sliceAdjust
  simp
theorem places_back (n : Nat) : Builtin.Slice.slicePlaces ((n : Int) - 1) (-1) (-1) = n := by
  unfold Builtin.Slice.slicePlaces
  have neg : ¬ ((-1 : Int) > 0) := by decide
  simp only [neg, if_false]
  have one : (- -1 : Int) = 1 := by decide
  rw [one]
  simp only [Int.ediv_one]
  split <;> omega
theorem applied_back {sl : Addr} {t : Tok} {n : Nat} {Q : Int × Int × Nat → Shared → Prop} (hs : s.heap.IsSliceOf sl .none .none (.int (-1) t)) (h : Q ((n : Int) - 1, -1, n) s) :
    wpAny (model prog w) A (Builtin.Slice.sliceApplied (.ref sl) (pure (n : Int))) Q E s := by
  obtain ⟨ob, at_, cl, dt⟩ := id hs
  unfold Builtin.Slice.sliceApplied Builtin.Slice.sliceFields
  refine wpAny_bind (wpAny_bind (wpAny_field at_ dt (x := .none) rfl (wpAny_bind (wpAny_field at_ dt (x := .none) rfl (wpAny_bind (wpAny_field at_ dt (x := .int (-1) t) rfl (wpAny_pure ?_)))))))
  refine wpAny_bind (HT.slicePart_ (IsPart.int (-1) t) ?_)
  show wpAny _ _ (if ((-1 : Int) == 0) = true then _ else _) _ _ s
  rw [if_neg (show ¬ ((-1 : Int) == 0) = true from by decide)]
  refine wpAny_bind (HT.slicePart_ IsPart.none (wpAny_bind (HT.slicePart_ IsPart.none (wpAny_bind (wpAny_pure ?_)))))
  show wpAny _ _ (match Builtin.Slice.sliceAdjust none none (-1) (n : Int) with | (a, b) => pure (a, (-1 : Int), Builtin.Slice.slicePlaces a b (-1))) _ _ s
  rw [adjust_back]
  show wpAny _ _ (pure ((n : Int) - 1, (-1 : Int), Builtin.Slice.slicePlaces ((n : Int) - 1) (-1) (-1))) _ _ s
  rw [places_back]
  exact wpAny_pure h
theorem pick_back (xs : Array Value) : ((List.range xs.size).filterMap fun (m : Nat) => xs[(((xs.size : Int) - 1) + (m : Int) * (-1)).toNat]?).toArray = xs.toList.reverse.toArray := by
  congr 1
  have e : (List.range xs.size).filterMap (fun (m : Nat) => xs[(((xs.size : Int) - 1) + (m : Int) * (-1)).toNat]?) = (List.range xs.size).filterMap fun m => xs[xs.size - 1 - m]? := by
    congr 1
    funext m
    rw [show (((xs.size : Int) - 1) + (m : Int) * (-1)).toNat = xs.size - 1 - m by omega]
  rw [e]
  have e2 : (List.range xs.size).filterMap (fun m => xs[xs.size - 1 - m]?) = ((List.range xs.size).map fun k => xs.size - 1 - k).filterMap (xs[·]?) := by
    rw [List.filterMap_map]; rfl
  rw [e2, PySem.W.krv_range, List.filterMap_reverse, PySem.W.krv_all]
theorem getItem_back {t sl : Addr} {items : Array Value} {u : Tok} {Q : Value → Shared → Prop} (ht : IsTup s.heap t items) (hs : s.heap.IsSliceOf sl .none .none (.int (-1) u)) (few : items.size ≤ sizeLine)
    (h : Q (.ref s.heap.objs.size) { s with heap := s.heap.push { cls := .type "tuple", data := .seq items.toList.reverse.toArray } }) : wpAny (model prog w) A (getItem (.ref t) (.ref sl)) Q E s := by
  have fits : sizeOk (.seq items.toList.reverse.toArray) := by
    show items.toList.reverse.toArray.size ≤ sizeLine
    rw [List.size_toArray, List.length_reverse, Array.length_toList]
    exact few
  obtain ⟨ob, at_, cl, dt⟩ := id hs
  have isS : s.TypeIs (.ref sl) "slice" := ⟨ob, at_, cl⟩
  unfold getItem
  try with_reducible refine wpAny_holding ?_
  first | refine wpAny_bind (wpAny_pure ?_) | skip
  refine wpAny_bind (wpAny_sequenceKey ht.typeIs (by decide) ?_)
  refine wpAny_bind (wpAny_callSpecial?_slot (name := Str.ofString "__getitem__") ht.typeIs slot_tuple_getitem (wpAny_call_entry slot_tuple_getitem ht.typeIs entry_tuple_getitem ?_ (args_tuple_getitem _ _)))
  show wpAny _ _ (Builtin.Tuple.tupleItemsOf (.ref t) >>= _) _ _ s
  refine wpAny_bind (PyProof.Rows.tupleItemsOf_ ht ?_)
  refine wpAny_bind (wpAny_typeOf isS ?_)
  rw [if_pos (show (Value.type "slice" == Value.type "slice") = true from by decide)]
  refine wpAny_bind (applied_back hs ?_)
  show wpAny _ _ (if (((items.size : Int) - 1 == 0) && ((-1 : Int) == 1) && (items.size == items.size)) = true then _ else _) _ _ s
  rw [show ((-1 : Int) == 1) = false from by decide, Bool.and_false, Bool.false_and, if_neg Bool.false_ne_true, pick_back]
  first
    | exact wpAny_bind (m := Builtin.Tuple.tupleExact _) (wpAny_newObj_type (wpAny_pure ⟨_, rfl, wpAny_pure h⟩) fits)
    | exact wpAny_bind (m := Builtin.Tuple.tupleExact _) (wpAny_newObj_type (wpAny_bind (wpAny_pure (wpAny_pure ⟨_, rfl, wpAny_pure h⟩))) fits)
    | exact wpAny_bind (wpAny_bind (m := Builtin.Tuple.tupleExact _) (wpAny_newObj_type (wpAny_pure (wpAny_pure ⟨_, rfl, wpAny_pure h⟩)) fits))
    | exact wpAny_bind (wpAny_bind (m := Builtin.Tuple.tupleExact _) (wpAny_newObj_type (wpAny_pure ⟨_, rfl, wpAny_pure h⟩) fits))
end
def tRevT (K : PySem.W.Frag) (te : TE) : TE := fun σ H Q => te σ H fun x H1 => ∃ a xs, x = .ref a ∧ SqT K H1 a xs ∧ ∀ p, H1 p = none → Q (.ref p) (upd H1 p (.tup xs.reverse))
theorem pe_revTK (K : PySem.W.Frag) {X : Cx} {e : Expr} {te : TE} {k : Nat} {p1 p2 p3 pos : Pos} (he : PE X e te) (hK : X.K = K := by rfl) :
    PE X (.Subscript e (.Slice none none (some (.UnaryOp .USub (.Constant (.int 1) k p1) p2)) p3) pos) (tRevT K te) := by
  cases hK
  constructor
  intro pins s σ H Q I h
  refine Subscript_ (thn (he.run pins s σ H _ I h) ?_)
  rintro v s1 ⟨x, H1, I1, r1, a, xs, rfl, hx, q⟩
  cases r1
  have st : PO X (some (.UnaryOp .USub (.Constant (.int 1) k p1) p2)) (tPart (tUn (rU fun i => .int (-i)) (tC (.int 1)))) := po_some (pe_un un_neg pe_int)
  refine wpAny_Slice (thn (po_none.run pins s1 σ H1 (fun o H2 => o = none ∧ H2 = H1) I1 ⟨rfl, rfl⟩) ?_)
  rintro vl s2 ⟨l, H2, I2, pl, rfl, rfl⟩
  refine thn (po_none.run pins s2 σ H2 (fun o H3 => o = none ∧ H3 = H2) I2 ⟨rfl, rfl⟩) ?_
  rintro vu s3 ⟨u, H3, I3, pu, rfl, rfl⟩
  refine thn (st.run pins s3 σ H3 (fun o H4 => o = some (-1) ∧ H4 = H3) I3 ⟨1, rfl, -1, rfl, rfl, rfl⟩) ?_
  rintro vs s4 ⟨o, H4, I4, ps, rfl, rfl⟩
  cases pl
  cases pu
  cases ps with
  | int _ tk =>
    have I5 : Inv X pins σ H4 { s4 with heap := s4.heap.push { cls := .type "slice", data := .fields #[.none, .none, .int (-1) tk] } } := I4.kept (t' := s4.toks) fun b ob z => Heap.get?_push_of_some _ z
    obtain ⟨its, r, ht, hz⟩ := I5.tuple hx
    have len := r.length
    show wpAny (model X.prog X.w) X.A (subscriptTail e (.Slice none none (some (.UnaryOp .USub (.Constant (.int 1) k p1) p2)) p3) (.ref a) (.ref s4.heap.objs.size)) (EP X pins σ Q) X.xe _
    refine tail_any (ops := [.ref a, .ref s4.heap.objs.size]) ht.typeIs slot_tuple_getitem.lookup ?_ (by with_unfolding_all rfl)
    refine getItem_back ht (Heap.IsSliceOf.new _ _ _ _) (by rw [List.size_toArray]; omega) ?_
    refine ⟨.ref _, _, I5.laid (t' := s4.toks) (o := .tup xs.reverse) (fun b ob z => Heap.get?_push_of_some _ z) (Nat.le_refl _) ?_, rfl, q _ (I5.hok.fresh (Nat.le_refl _))⟩
    exact ⟨by rw [List.length_reverse]; exact hz, _, r.reverse, _, Heap.get?_push_size _ rfl, rfl, 0, rfl⟩
end K23
/-! V14a: values and lots that are refused. -/
namespace K23
open PySem PySem.Spec PyProof.Rows L2
section
variable {T : Tl} {P : Program} {w : World} {K : PySem.W.Frag} {H H' : Hp} {ns : List Str} {x : V}
/-- a kind that is none of ns -/
structure OddAt (K : PySem.W.Frag) (H : Hp) (ns : List Str) (x : V) : Prop where
  ex : OddK K H x ns
  kd : ∃ tn, Kd K H x tn
  no : nmB x = true → ∃ s, x = .str s ∧ s ∉ ns
theorem OddAt.mv (o : OddAt K H ns x) (e : Ex T H H') : OddAt K H' ns x := by
  obtain ⟨h1, ⟨tn, h4⟩, h5⟩ := o
  exact ⟨h1.ex e, ⟨tn, h4.ex e⟩, h5⟩
theorem odd_str {o : Str} (h : o ∉ ns) (ok : PyData.strOk o = true) (len : o.length ≤ 100000) : OddAt K H ns (.str o) :=
  ⟨.inl ⟨.str o, .str o, by rw [PyData.canLay0]; exact ok, fun s hs => by rw [eqv_str]; exact decide_eq_false fun z => h (z ▸ hs)⟩, ⟨_, .str o len⟩, fun _ => ⟨o, rfl, h⟩⟩
theorem odd_bad {o : Str} (nm : ∀ s ∈ ns, IsNm s) (h : ¬ IsNm o) (ok : PyData.strOk o = true) (len : o.length ≤ 100000) : OddAt K H ns (.str o) := odd_str (fun z => h (nm o z)) ok len
theorem odd_int {i : Int} : OddAt K H ns (.int i) := ⟨.inl ⟨.int i, .int i, by rw [PyData.canLay0], fun s _ => by rw [PyData.eqv]⟩, ⟨_, .int i⟩, fun z => nomatch z⟩
theorem odd_bl {b : Bool} : OddAt K H ns (.bl b) := ⟨.inl ⟨.bool b, .bl b, by rw [PyData.canLay0], fun s _ => by rw [PyData.eqv]⟩, ⟨_, .bl b⟩, fun z => nomatch z⟩
theorem odd_non : OddAt K H ns .non := ⟨.inl ⟨.none, .non, by rw [PyData.canLay0], fun s _ => by rw [PyData.eqv]⟩, ⟨_, .non⟩, fun z => nomatch z⟩
theorem odd_tup {a : Addr} {y : Str} (h : SqT K H a [.str y]) (ok : PyData.strOk y = true) : OddAt K H ns (.ref a) :=
  ⟨.inl ⟨.tuple ([y].map .str), .tup h (dpa_of_strs [y]), SeqAt.canLay_of_shaped (shp_tup_strs fun s hs => by rw [List.mem_singleton.mp hs]; exact ok), fun s _ => by rw [PyData.eqv]⟩, ⟨_, .tup h⟩, fun z => nomatch z⟩
theorem shp_lst_strs {ns : List Str} (h : ∀ s ∈ ns, PyData.strOk s = true) : SeqAt.shaped (.list (ns.map PyData.str)) = true := by
  unfold SeqAt.shaped
  rw [PyData.canLay0, can_strs ns h, PyData.depth, depth_strs]; rfl
theorem odd_lst {a : Addr} {y : Str} (h : SqL K H a [.str y]) (ok : PyData.strOk y = true) : OddAt K H ns (.ref a) :=
  ⟨.inl ⟨.list ([y].map .str), .lst h (dpa_of_strs [y]), SeqAt.canLay_of_shaped (shp_lst_strs fun s hs => by rw [List.mem_singleton.mp hs]; exact ok), fun s _ => by rw [PyData.eqv]⟩, ⟨_, .lst h⟩, fun z => nomatch z⟩
theorem odd_dic {a : Addr} (h : H a = some (.dK [])) : OddAt K H ns (.ref a) := ⟨.inr ⟨a, rfl, h⟩, ⟨_, .dic h⟩, fun z => nomatch z⟩
theorem nm_upper {s : Str} (h : IsNm s) : ¬ IsNm (Txt.upper s) ∧ PyData.strOk (Txt.upper s) = true ∧ (Txt.upper s).length ≤ 100000 := by
  have e := upper_ascii (x := s) fun c hc => by have := h.2.2 c hc; omega
  rw [e]
  have mem : ∀ c ∈ (⟨s.cps.map up1⟩ : Str).cps.toList, 65 ≤ c ∧ c ≤ 90 := fun c hc => by
    rw [Array.toList_map] at hc
    obtain ⟨d, hd, rfl⟩ := List.mem_map.mp hc
    have := h.2.2 d hd
    unfold up1
    rw [if_pos this]
    omega
  have len : (⟨s.cps.map up1⟩ : Str).length = s.length := Array.size_map ..
  refine ⟨fun z => ?_, strOk_of fun c hc => by have := mem c hc; omega, by have := h.2.1; omega⟩
  have l1 := z.1
  have l2 : (⟨s.cps.map up1⟩ : Str).cps.toList.length = (⟨s.cps.map up1⟩ : Str).length := Array.length_toList
  cases hl : (⟨s.cps.map up1⟩ : Str).cps.toList with
  | nil => rw [hl] at l2; simp at l2; omega
  | cons c r =>
    have hc : c ∈ (⟨s.cps.map up1⟩ : Str).cps.toList := by rw [hl]; exact List.mem_cons_self
    have a1 := mem c hc
    have a2 := z.2.2 c hc
    omega
theorem nm_sp {s : Str} (h : IsNm s) : ¬ IsNm (s ++ " ") ∧ PyData.strOk (s ++ " ") = true ∧ (s ++ " ").length ≤ 100000 := by
  have e : (s ++ " ").cps.toList = s.cps.toList ++ [32] := by rw [cat_cps]; rfl
  have l2 : (s ++ " ").cps.toList.length = (s ++ " ").length := Array.length_toList
  have l3 : s.cps.toList.length = s.length := Array.length_toList
  refine ⟨fun z => ?_, strOk_of fun c hc => ?_, ?_⟩
  · have := z.2.2 32 (by rw [e]; simp)
    omega
  · rw [e] at hc
    rcases List.mem_append.mp hc with hc | hc
    · have := h.2.2 c hc; omega
    · rw [List.mem_singleton.mp hc]; omega
  · rw [← l2, e, List.length_append, l3]
    have := h.2.1
    simp
    omega
theorem nm_q {s : Str} (h : IsNm s) : PyData.strOk (s ++ "q") = true ∧ (s ++ "q").length ≤ 100000 := by
  have e : (s ++ "q").cps.toList = s.cps.toList ++ [113] := by rw [cat_cps]; rfl
  have l2 : (s ++ "q").cps.toList.length = (s ++ "q").length := Array.length_toList
  have l3 : s.cps.toList.length = s.length := Array.length_toList
  refine ⟨strOk_of fun c hc => ?_, ?_⟩
  · rw [e] at hc
    rcases List.mem_append.mp hc with hc | hc
    · have := h.2.2 c hc; omega
    · rw [List.mem_singleton.mp hc]; omega
  · rw [← l2, e, List.length_append, l3]
    have := h.2.1
    simp
    omega
/-! ### lots -/
theorem sortN_ss (l : List Str) (h : l = sortN (uniq l)) : l.Nodup ∧ l.Pairwise fun a b => leS a b = true := by
  rw [h]
  exact ⟨(sortN_perm _).nodup_iff.mpr (uniq_nodup l), sortN_sorted _⟩
theorem lot_dup {L : List Str} (h : ¬ L.Nodup) : lotB (L.map V.str) = true → ∃ s ∈ strsOf (L.map V.str), s ∉ ns := fun z => by
  unfold lotB at z
  rw [Bool.and_eq_true, strsOf_map] at z
  exact absurd (sortN_ss L (of_decide_eq_true z.2)).1 h
theorem lot_turn {L Ks : List Str} (hk : Ks.Pairwise fun a b => leS a b = true) (p : L.Perm Ks) (ne : L ≠ Ks) : lotB (L.map V.str) = true → ∃ s ∈ strsOf (L.map V.str), s ∉ ns := fun z => by
  unfold lotB at z
  rw [Bool.and_eq_true, strsOf_map] at z
  exact absurd (sorted_eq (sortN_ss L (of_decide_eq_true z.2)).2 hk p) ne
theorem lot_odd {xs : List V} (o : OddAt K H ns x) (h : x ∈ xs) : lotB xs = true → ∃ s ∈ strsOf xs, s ∉ ns := fun z => by
  unfold lotB at z
  rw [Bool.and_eq_true] at z
  obtain ⟨s, e, no⟩ := o.no (List.all_eq_true.mp z.1 x h)
  rw [e] at h
  refine ⟨s, ?_, no⟩
  unfold strsOf
  exact List.mem_filterMap.mpr ⟨_, h, rfl⟩
theorem bad_tup {a : Addr} {xs : List V} (h : SqT K H a xs) (few : xs.length < 64) (kd : ∀ y ∈ xs, ∃ tn, Kd K H y tn) (b : lotB xs = true → ∃ s ∈ strsOf xs, s ∉ ns) : BadLot K H (.ref a) ns := .inl ⟨a, xs, rfl, h, few, kd, b⟩
theorem bad_kd {tn : String} (k : Kd K H x tn) (h : tn ≠ "tuple") : BadLot K H x ns := .inr ⟨tn, k, h⟩
theorem rev_ne {l : List Str} (nd : l.Nodup) (h : 1 < l.length) : l.reverse ≠ l := fun e => by
  have h0 : l.reverse[0]'(by rw [List.length_reverse]; omega) = l[0] := by simp [e]
  rw [List.getElem_reverse] at h0
  have h1 : l[l.length - 1]? = some l[0] := by
    rw [List.getElem?_eq_getElem (by omega)]
    exact congrArg some h0
  have := nodup_ix nd h1 (List.getElem?_eq_getElem (by omega))
  omega
theorem turn_ne {l : List Str} (nd : l.Nodup) (h : 1 < l.length) : l.drop 1 ++ l.take 1 ≠ l := fun e => by
  match l, nd, h, e with
  | a :: b :: r, nd, _, e =>
    have : b = a := by
      have := congrArg (fun z => z[0]?) e
      simpa using this
    rw [this] at nd
    simp at nd
end
/-! ### what is heard -/
section
variable {T : Tl} {K : PySem.W.Frag} {CN CR : Addr}
theorem heard_no {t : XK → TE} {σ : L2.St} {H : Hp} {C : Addr} {m wd : Str} {R : Bool → Hp → Prop} (hT : LamX.Tabs T H) (okm : PyData.strOk m = true) (okw : PyData.strOk wd = true) (who : (C = CN ∧ wd = "number") ∨ (C = CR ∧ wd = "refused"))
    (run : ∀ H1 E Q', Ex T H H1 → (∀ c dd H', errX T C m H1 c dd H' → E c dd H') → t E σ H1 Q') (r0 : ∀ H', Ex T H H' → R false H') :
    tTest (tOp (rNeD K) (LamX.tLam T (TTH CN CR) t) (tTup (tCons (tC (.str wd)) (tCons (tC (.str m)) tNil)))) σ H R := by
  refine ⟨hT, fun H1 eN T1 Q' => run H1 _ Q' ⟨eN, fun _ => T1⟩ fun c dd H' he => ?_⟩
  obtain ⟨rfl, d', rfl, h', ex⟩ := he
  have fin : ∀ p, H' p = none → tTup (tCons (tC (.str wd)) (tCons (tC (.str m)) tNil)) σ (upd H' p (.tup [.str wd, .str m])) fun y H2 => rNeD K (.ref p) y H2 fun x H3 => ∃ k, x = .bl k ∧ R k H3 := fun p hp => by
    refine ⟨sz_ok (n := 2) (by decide), fun p2 hp2 => ?_⟩
    have e1 : Ex T H' (upd H' p (.tup [.str wd, .str m])) := Ex.new hp
    have e2 : Ex T (upd H' p (.tup [.str wd, .str m])) (upd (upd H' p (.tup [.str wd, .str m])) p2 (.tup [.str wd, .str m])) := Ex.new hp2
    have ok2 : ∀ s ∈ [wd, m], PyData.strOk s = true := fun s hs => by
      rcases List.mem_cons.mp hs with e | e
      · rw [e]; exact okw
      · rw [List.mem_singleton.mp e]; exact okm
    refine ⟨.tuple ([wd, m].map .str), .tuple ([wd, m].map .str), .tup (e2.st (.inl (.inl upd_same))) (dpa_of_strs [wd, m]), .tup (.inl (.inl upd_same)) (dpa_of_strs [wd, m]), shp_tup_strs ok2, shp_tup_strs ok2, _, rfl, ?_⟩
    rw [eqv_tstrs, decide_eq_true rfl]
    exact r0 _ (((Ex.mk eN fun _ => T1).trans ex).trans (e1.trans e2))
  rcases who with ⟨rfl, rfl⟩ | ⟨rfl, rfl⟩
  · exact ⟨d', m, rfl, h', .inl ⟨rfl, fin⟩⟩
  · exact ⟨d', m, rfl, h', .inr ⟨rfl, fin⟩⟩
end
end K23
set_option maxHeartbeats 2000000
/-! V14: _law_refused_right. -/
namespace K23
open PySem PySem.Spec PyProof.Rows L2
section
variable {T : Tl} {P : Program} {w : World} {K : PySem.W.Frag} {mg : Str → Option Value} {base : Heap} {A : Nat → Addr} {D : Nat → FuncData} {CN CR fN fR : Addr} {dN dR : FuncData}
theorem name_id {i : Nat} {x : V} {σ : L2.St} {H : Hp} {Q : L2.St → Hp → Prop} (h : Q (σ.set i (some x)) H) : gName i x σ H Q := h
def spRR (T : Tl) (K : PySem.W.Frag) : Sp := fun vs H Q _ => ∃ (h k pa : Addr) (v : V) (f : Fm Str) (ρ : Str → Int), vs = [.ref h, v, .ref k, .ref pa] ∧ Dh H h ∧ Dp K H v (enc f) ∧ FmOk f ∧ depth f < 24 ∧ f.names.length ≤ 5 ∧ SqT K H k ((sortN f.names).map V.str) ∧ PoolAt K H pa f.names ρ ∧
  ((∀ s ∈ f.names, s ≠ "x") ∨ ∀ s ∈ f.names, s ≠ "nuts") ∧ LamX.Tabs T H ∧ ∀ H', Ex T H H' → Q (.bl true) H'
theorem ok_refused_right (U : Txt K mg A D) (Er : Errs P w K mg base CN CR fN fR dN dR) (hL : LamOk mg base T (D 60) "_law_refused_right.<locals>.<lambda>") : FnOk P w K mg base CX0 60 (A 60) (D 60) ["_law_heap_here", "_law_formula_here", "_law_kinds", "_law_pool"] (spRR T K) := by
  have G_needed := ok_neededX (T := T) U Er
  have G_pieces_with_plenty := ok_plentyX (T := T) U Er
  have G_l_draw := ok_draw (T := T) (P := P) (w := w) (base := base) U
  have G_l_pick := ok_pick (T := T) (P := P) (w := w) (base := base) U
  obtain ⟨c, Pt, hcd0, hTB, hmT, hu⟩ := hL
  obtain ⟨oc, od, dV, kV, doc, pm, an, cdv, ct, osl, e0, lk, hcd, hd, hk⟩ := (F_l_refused_right U).ex
  rw [e0] at hcd0 lk ⊢
  have ecd : cdv = .ref c := hcd0
  subst ecd
  refine fn_of lk hcd sc_l_refused_right (fun vs H Q E h => by obtain ⟨_, _, _, _, _, _, rfl, _⟩ := h; rfl) (fun A' outer s H vs Q E hr h => ?_)
  obtain ⟨h, k, pa, v, f, ρ, rfl, hh, hv, hok, hdep, h5, hks, hp, hxn, hT, q⟩ := h
  refine ⟨_, PSs.nox (pss_cons
      (ps_asg (pe_tup (pa_cons (pe_f G_l_draw hr (by omega) (g_l_draw U) (F_l_draw U).kp (b_l_draw U) (pa_cons (pv 0) (pa_cons (pe_callB (kc_len K) (by rfl) (z_len U) boot_len (pa_cons (pv 2) pa_nil)) pa_nil))) (pa_cons (pe_f G_l_pick hr (by omega) (g_l_pick U) (F_l_pick U).kp (b_l_pick U) (pa_cons (pv 0) (pa_cons (pv 2) pa_nil))) pa_nil))) (kg_tup K (n := 2) (pgs_cons (pg_name (i := 4) sc_l_refused_right.nd rfl (.inl rfl)) (pgs_cons (pg_name (i := 8) sc_l_refused_right.nd rfl (.inr rfl)) pgs_nil))))
      (pss_cons
      (ps_set (i := 5) sc_l_refused_right.nd rfl (.inl rfl) (pe_ix (kx_list K) (pe_lc (g := gName 11) rfl sc_l_refused_right.nd (ki_list K (pe_lst (pa_cons pe_str (pa_cons pe_str (pa_cons (pe_op op_add_str (pv 8) pe_str) (pa_cons pe_str pa_nil)))))) (blkOk_by (N := N_l_refused_right) (own := [("_law_word", 11)]) (by kernel_rfl)) (fun _ _ _ _ _ => (pg_name (i := 11) sc_l_refused_right.nd rfl (.inl rfl))) (fun _ _ _ _ _ => (pts_one (pt_cmpR (ko_notIn K) (pv 11) (pv 2) rfl))) (fun _ _ _ _ _ => (pv 11))) pe_int (fun _ _ => rfl)))
      (pss_cons
      (ps_set (i := 10) sc_l_refused_right.nd rfl (.inr rfl) (pe_f G_l_pick hr (by omega) (g_l_pick U) (F_l_pick U).kp (b_l_pick U) (pa_cons (pv 0) (pa_cons (pe_lst (pa_cons (pv 5) (pa_cons (pv 4) (pa_cons pe_non (pa_cons pe_bl (pa_cons pe_str (pa_cons (pe_tup (pa_cons (pv 8) pa_nil)) (pa_cons (pe_lst (pa_cons (pv 8) pa_nil)) (pa_cons (kb_m0 K PySem.F.plainAttrs_str PySem.F.slot_str_upper PySem.F.type_str_upper mt_upper (pv 8)) (pa_cons (pe_op op_add_str (pv 8) pe_str) (pa_cons pe_dnewK (pa_cons (pe_op op_sub pe_int pe_int) pa_nil)))))))))))) pa_nil))))
      (pss_cons
      (ps_set (i := 9) sc_l_refused_right.nd rfl (.inr rfl) (pe_f G_l_pick hr (by omega) (g_l_pick U) (F_l_pick U).kp (b_l_pick U) (pa_cons (pv 0) (pa_cons (pe_lst (pa_cons (pe_op op_sub pe_int pe_int) (pa_cons pe_bl (pa_cons pe_bl (pa_cons pe_non (pa_cons pe_str (pa_cons (pe_tup (pa_cons pe_int pa_nil)) (pa_cons (pe_lst pa_nil) (pa_cons (pe_op op_sub pe_int (pe_op op_pow pe_int pe_int)) pa_nil))))))))) pa_nil))))
      (pss_cons
      (ps_if (pt_cmpR (ko_neD K hr.units) (pe_heard (k := 49) (CN := CN) (CR := CR) U Er hTB rfl hmT hu (hr.mono (by omega)) (LamX.lamS_by (by rfl)) (fun _ _ _ _ _ => rfl) (fun A2 o2 s2 H2 E2 f2 c2 hr2 => (pe_call G_needed (hr2.mono (by omega)) (by rfl) (g_needed U) (F_needed U).kp (b_needed U) .nil (passes_call (takes_of rfl rfl rfl rfl) (fun _ _ _ _ h => h)) (pa_cons (pv 1) (pa_cons (pv 3) (pa_cons (pv 10) (pa_cons (pv 9) pa_nil))))))) (pe_tup (pa_cons pe_str (pa_cons pe_str pa_nil))) (nomark _))
       (pss_one
       (ps_ret pe_bl))
       pss_nil)
      (pss_cons
      (ps_if (pt_cmpR (ko_neD K hr.units) (pe_heard (k := 49) (CN := CN) (CR := CR) U Er hTB rfl hmT hu (hr.mono (by omega)) (LamX.lamS_by (by rfl)) (fun _ _ _ _ _ => rfl) (fun A2 o2 s2 H2 E2 f2 c2 hr2 => (pe_call G_needed (hr2.mono (by omega)) (by rfl) (g_needed U) (F_needed U).kp (b_needed U) .nil (passes_call (takes_of rfl rfl rfl rfl) (fun _ _ _ _ h => h)) (pa_cons (pv 1) (pa_cons (pv 3) (pa_cons (pv 8) (pa_cons (pv 9) pa_nil))))))) (pe_tup (pa_cons pe_str (pa_cons pe_str pa_nil))) (nomark _))
       (pss_one
       (ps_ret pe_bl))
       pss_nil)
      (pss_cons
      (ps_set (i := 6) sc_l_refused_right.nd rfl (.inl rfl) (pe_lst (pa_cons (pe_tup (pa_cons (pv 8) (pa_cons (pv 8) pa_nil))) (pa_cons (pe_tup (pa_cons (pv 10) pa_nil)) (pa_cons (pe_callTy (kc_list K) (by rfl) (z_list U) boot_list (pa_cons (pv 2) pa_nil)) (pa_cons (pv 8) (pa_cons pe_non (pa_cons (pe_op (ko_cat K) (pe_op (ko_cat K) (pe_slice (ks_tup K) (pv 2) po_none (po_some (pv 4))) (pe_tup (pa_cons (pv 10) pa_nil))) (pe_slice (ks_tup K) (pv 2) (po_some (pv 4)) po_none)) (pa_cons (pe_op (ko_cat K) (pe_revTK K (pv 2)) (pv 2)) (pa_cons pe_dnewK pa_nil))))))))))
      (pss_cons
      (ps_if (pt_cmpR op_gt (pe_callB (kc_len K) (by rfl) (z_len U) boot_len (pa_cons (pv 2) pa_nil)) pe_int (nomark _))
       (pss_one
       (ps_set (i := 6) sc_l_refused_right.nd rfl (.inl rfl) (pe_op op_cat (pv 6) (pe_lst (pa_cons (pe_revTK K (pv 2)) (pa_cons (pe_op (ko_cat K) (pe_slice (ks_tup K) (pv 2) (po_some pe_int) po_none) (pe_slice (ks_tup K) (pv 2) po_none (po_some pe_int))) pa_nil))))))
       pss_nil)
      (pss_cons
      (ps_for PassesOwn.never rfl (ki_list K (pv 6)) (pg_name (i := 7) sc_l_refused_right.nd rfl (.inr rfl))
       (pss_one
       (ps_if (pt_cmpR (ko_neD K hr.units) (pe_heard (k := 49) (CN := CN) (CR := CR) U Er hTB rfl hmT hu (hr.mono (by omega)) (LamX.lamS_by (by rfl)) (fun _ _ _ _ _ => rfl) (fun A2 o2 s2 H2 E2 f2 c2 hr2 => (pe_call G_pieces_with_plenty (hr2.mono (by omega)) (by rfl) (g_pieces_with_plenty U) (F_pieces_with_plenty U).kp (b_pieces_with_plenty U) .nil (passes_call (takes_of rfl rfl rfl rfl) (fun _ _ _ _ h => h)) (pa_cons (pv 1) (pa_cons (pv 3) (pa_cons (pv 7) pa_nil)))))) (pe_tup (pa_cons pe_str (pa_cons pe_str pa_nil))) (nomark _))
        (pss_one
        (ps_ret pe_bl))
        pss_nil)))
      (pss_one
      (ps_ret pe_bl))))))))))), ?_⟩
  have five : (sortN f.names).length ≤ 5 := by rw [sortN_len]; exact h5
  have pos : 0 < (sortN f.names).length := by rw [sortN_len]; exact names_pos hok.wf
  have nmK : ∀ s ∈ sortN f.names, IsNm s := fun s hs => hok.nm s (mem_sortN.mp hs)
  have ksn : (sortN f.names).Nodup := (sortN_perm _).nodup_iff.mpr hok.nd
  have memK : ∀ s, s ∈ sortN f.names ↔ s ∈ f.names := fun s => mem_sortN
  refine ⟨_, rfl, _, rfl, k, _, rfl, .inr hks, h, _, rfl, hh, by rw [List.length_map]; omega, by rw [List.length_map]; omega, fun H1 r1 e1 r10 r11 => ?_⟩
  rw [List.length_map] at r11
  obtain ⟨i, rfl⟩ : ∃ i : Nat, r1 = (i : Int) := ⟨r1.toNat, by omega⟩
  refine ⟨_, rfl, _, rfl, h, k, _, rfl, hh.ex e1, .inr (e1.st hks), by rw [List.length_map]; exact pos, by rw [List.length_map]; omega, fun H2 x j e2 hx => ⟨sz_ok (n := 2) (by decide), fun tp htp => ?_⟩⟩
  obtain ⟨name, hname, rfl⟩ : ∃ name, name ∈ sortN f.names ∧ x = .str name := by
    rw [List.getElem?_map] at hx
    cases hn : (sortN f.names)[j]? with
    | none => rw [hn] at hx; cases hx
    | some y => rw [hn] at hx; exact ⟨y, List.mem_of_getElem? hn, (Option.some.inj hx).symm⟩
  have nmN := nmK name hname
  have hnf : name ∈ f.names := (memK name).mp hname
  have len5 := nmN.2.1
  have e3 : Ex T H2 (upd H2 tp (.tup [.int (i : Int), .str name])) := Ex.new htp
  refine ⟨tp, _, rfl, .inl (.inl upd_same), rfl, _, _, rfl, _, _, rfl, rfl, ?_⟩
  have e13 := (e1.trans e2).trans e3
  generalize (upd H2 tp (.tup [.int (i : Int), .str name])) = HA at *
  -- a kind that is none of them
  refine ⟨_, rfl, name, "q", rfl, rfl, sz_ok (by have : ("q" : Str).length = 1 := by decide +kernel
                                                 omega), sz_ok (n := 4) (by decide), fun wl hwl => ?_⟩
  refine ⟨wl, rfl, ⟨_, .inl (.inl upd_same)⟩, fun D hD => ?_⟩
  have e4 : Ex T HA (upd HA wl (.lst [.str "x", .str "nuts", .str (name ++ "q"), .str "zz"])) := Ex.new hwl
  refine map_lst (T := T) (e := PyData.str) (as := ["x", "nuts", name ++ "q", "zz"]) (.inl (.inl upd_same)) (dpa_of_strs ["x", "nuts", name ++ "q", "zz"]) (fun s => if decide (s ∉ sortN f.names) then some (.str s) else none) (by simp) hD ?_ ?_
  · intro s1 y H' E N hs e hy g1 g2
    have := hy.at_str
    subst this
    refine ⟨rfl, _, rfl, _, rfl, k, _, rfl, .inr (((e13.trans e4).trans e).st hks), rfl, flat_strs _, _, rfl, ?_⟩
    rw [in_strs, if_pos rfl, ← decide_not]
    refine if_dec (fun z => ?_) fun z => ?_
    · exact ⟨_, rfl, g2 _ (if_pos (decide_eq_true z)) _ H' (Ex.refl _) rfl (.str _)⟩
    · exact g1 (if_neg (by rw [decide_eq_false z]; decide)) H' (Ex.refl _)
  intro ys H5 e5 h5' hy
  rw [fm_filter] at hy
  have := dpa_strs hy
  subst this
  obtain ⟨o, rest, ho⟩ : ∃ o rest, (["x", "nuts", name ++ "q", "zz"] : List Str).filter (fun s => decide (s ∉ sortN f.names)) = o :: rest := by
    cases hf : (["x", "nuts", name ++ "q", "zz"] : List Str).filter (fun s => decide (s ∉ sortN f.names)) with
    | cons o r => exact ⟨o, r, rfl⟩
    | nil =>
      have none := List.filter_eq_nil_iff.mp hf
      rcases hxn with hx | hx
      · exact (none "x" (by simp) (decide_eq_true fun z => hx "x" ((memK _).mp z) rfl)).elim
      · exact (none "nuts" (by simp) (decide_eq_true fun z => hx "nuts" ((memK _).mp z) rfl)).elim
  rw [ho] at h5' hy
  have hom : o ∈ (["x", "nuts", name ++ "q", "zz"] : List Str).filter (fun s => decide (s ∉ sortN f.names)) := by rw [ho]; exact List.mem_cons_self
  obtain ⟨om, on⟩ := List.mem_filter.mp hom
  have on : o ∉ f.names := fun z => absurd ((memK o).mpr z) (of_decide_eq_true on)
  obtain ⟨ok1, ol1⟩ : PyData.strOk o = true ∧ o.length ≤ 100000 := by
    rcases List.mem_cons.mp om with e | om
    · rw [e]; exact ⟨by decide +kernel, by decide +kernel⟩
    rcases List.mem_cons.mp om with e | om
    · rw [e]; exact ⟨by decide +kernel, by decide +kernel⟩
    rcases List.mem_cons.mp om with e | om
    · rw [e]; exact nm_q nmN
    · rw [List.mem_singleton.mp om]; exact ⟨by decide +kernel, by decide +kernel⟩
  have e15 := (e13.trans e4).trans e5
  refine ⟨D, _, 0, .str o, rfl, rfl, .inl (.inl h5'), atI_nat (xs := (o :: rest).map V.str) (j := 0) rfl, ?_⟩
  -- the odd kind
  refine ⟨_, rfl, _, rfl, _, rfl, _, rfl, sz_ok (n := 1) (by decide), fun t1 ht1 => ⟨_, rfl, sz_ok (n := 1) (by decide), fun l1 hl1 => ?_⟩⟩
  have f1 : Ex T H5 (upd H5 t1 (.tup [.str name])) := Ex.new ht1
  have f2 : Ex T (upd H5 t1 (.tup [.str name])) (upd (upd H5 t1 (.tup [.str name])) l1 (.lst [.str name])) := Ex.new hl1
  refine ⟨_, rfl, rfl, name, rfl, rfl, by omega, _, rfl, name, " ", rfl, rfl, sz_ok (by have : (" " : Str).length = 1 := by decide +kernel
                                                                                        omega), fun d1 hd1 => ⟨0, 1, rfl, rfl, sz_ok (n := 11) (by decide), fun ol hol => ?_⟩⟩
  have ht1' : SqT K (upd (upd H5 t1 (.tup [.str name])) l1 (.lst [.str name])) t1 [.str name] := f2.st (.inl (.inl upd_same))
  have hl1' : SqL K (upd (upd H5 t1 (.tup [.str name])) l1 (.lst [.str name])) l1 [.str name] := .inl (.inl upd_same)
  have f12 := f1.trans f2
  generalize (upd (upd H5 t1 (.tup [.str name])) l1 (.lst [.str name])) = H6 at *
  have f3 : Ex T H6 (upd H6 d1 (.dK [])) := Ex.new hd1
  have hd1' : (upd H6 d1 (.dK [])) d1 = some (.dK []) := upd_same
  generalize (upd H6 d1 (.dK [])) = H7 at *
  have f4 : Ex T H7 (upd H7 ol (.lst [.str o, .int (i : Int), .non, .bl true, .str "", .ref t1, .ref l1, .str (Txt.upper name), .str (name ++ " "), .ref d1, .int (0 - 1)])) := Ex.new hol
  refine ⟨h, ol, _, rfl, (((hh.ex e15).ex f12).ex f3).ex f4, .inl (.inl (.inl upd_same)), Nat.zero_lt_succ _, Nat.le_trans (Nat.le_refl 11) (by decide), fun H8 x j8 f5 hx8 => ?_⟩
  have f38 := (f3.trans f4).trans f5
  have odd : OddAt K H8 f.names x := by
    match j8, hx8 with
    | 0, hx => cases hx; exact odd_str on ok1 ol1
    | 1, hx => cases hx; exact odd_int
    | 2, hx => cases hx; exact odd_non
    | 3, hx => cases hx; exact odd_bl
    | 4, hx => cases hx; exact odd_bad hok.nm (fun z => by have := z.1; have : ("" : Str).length = 0 := by decide +kernel
                                                           omega) (by decide +kernel) (by decide +kernel)
    | 5, hx => cases hx; exact odd_tup (f38.st ht1') nmN.ok
    | 6, hx => cases hx; exact odd_lst (f38.sl hl1') nmN.ok
    | 7, hx => cases hx; have := nm_upper nmN; exact odd_bad hok.nm this.1 this.2.1 this.2.2
    | 8, hx => cases hx; have := nm_sp nmN; exact odd_bad hok.nm this.1 this.2.1 this.2.2
    | 9, hx => cases hx; exact odd_dic ((f4.trans f5).dK hd1')
    | 10, hx => cases hx; exact odd_int
  have e18 := (e15.trans f12).trans f38
  -- the odd number
  refine ⟨_, rfl, 0, 1, rfl, rfl, sz_ok (n := 1) (by decide), fun t2 ht2 => ⟨sz_ok (n := 0) (by decide), fun l2 hl2 => ⟨10, 20, rfl, rfl, ⟨by decide, by decide, by decide⟩, 0, _, rfl, rfl, sz_ok (n := 8) (by decide), fun nl hnl => ?_⟩⟩⟩
  have g1 : Ex T H8 (upd H8 t2 (.tup [.int 1])) := Ex.new ht2
  have g2 : Ex T (upd H8 t2 (.tup [.int 1])) (upd (upd H8 t2 (.tup [.int 1])) l2 (.lst [])) := Ex.new hl2
  have ht2' : SqT K (upd (upd H8 t2 (.tup [.int 1])) l2 (.lst [])) t2 [.int 1] := g2.st (.inl (.inl upd_same))
  have hl2' : SqL K (upd (upd H8 t2 (.tup [.int 1])) l2 (.lst [])) l2 [] := .inl (.inl upd_same)
  have g12 := g1.trans g2
  generalize (upd (upd H8 t2 (.tup [.int 1])) l2 (.lst [])) = H9 at *
  have g3 : Ex T H9 (upd H9 nl (.lst [.int (0 - 1), .bl true, .bl false, .non, .str "1", .ref t2, .ref l2, .int (0 - 10 ^ 20)])) := Ex.new hnl
  refine ⟨h, nl, _, rfl, ((hh.ex e18).ex g12).ex g3, .inl (.inl (.inl upd_same)), Nat.zero_lt_succ _, Nat.le_trans (Nat.le_refl 8) (by decide), fun HB m j9 g4 hm9 => ?_⟩
  have g34 := g3.trans g4
  obtain ⟨mt, mk, mn⟩ : ∃ tn, Kd K HB m tn ∧ numB m = false := by
    match j9, hm9 with
    | 0, hx => cases hx; exact ⟨_, .int _, by decide⟩
    | 1, hx => cases hx; exact ⟨_, .bl _, rfl⟩
    | 2, hx => cases hx; exact ⟨_, .bl _, rfl⟩
    | 3, hx => cases hx; exact ⟨_, .non, rfl⟩
    | 4, hx => cases hx; exact ⟨_, .str _ (by decide +kernel), rfl⟩
    | 5, hx => cases hx; exact ⟨_, .tup (g34.st ht2'), rfl⟩
    | 6, hx => cases hx; exact ⟨_, .lst (g34.sl hl2'), rfl⟩
    | 7, hx => cases hx; exact ⟨_, .int _, by decide⟩
  have oddB := odd.mv (g12.trans g34)
  have eB := e18.trans (g12.trans g34)
  have hTB := eB.tabs hT
  -- the first two lambdas
  dsimp only
  refine seq_id (ifS_cps (fun _ => False) (fun H1 => Ex T HB H1) (fun R _ r0 => ?_) (fun _ z => z.elim) (fun HC eC => ?_))
  · refine heard_no hTB (by decide +kernel) (by decide +kernel) (.inr ⟨rfl, rfl⟩) (fun HX E Q' eX hE => ?_) r0
    exact ⟨_, rfl, _, rfl, _, rfl, _, rfl, v, f, pa, ρ, x, m, rfl, (eB.trans eX).dp hv, hok, hdep, hp.ex (eB.trans eX), .inl ⟨oddB.ex.ex eX, hE⟩⟩
  unfold tNext
  dsimp only
  refine seq_id (ifS_cps (fun _ => False) (fun H1 => Ex T HC H1) (fun R _ r0 => ?_) (fun _ z => z.elim) (fun HD' eD => ?_))
  · refine heard_no (eC.tabs hTB) (by decide +kernel) (by decide +kernel) (.inl ⟨rfl, rfl⟩) (fun HX E Q' eX hE => ?_) r0
    have eBX := eB.trans (eC.trans eX)
    exact ⟨_, rfl, _, rfl, _, rfl, _, rfl, v, f, pa, ρ, .str name, m, rfl, eBX.dp hv, hok, hdep, hp.ex eBX, .inr ⟨name, mt, rfl, hnf, mk.ex (eC.trans eX), mn, hE⟩⟩
  have eD2 := eC.trans eD
  have oddD := oddB.mv eD2
  have eBD := eB.trans eD2
  have hkD := eBD.st hks
  have cut : ∀ n, ((sortN f.names).map V.str).take n = ((sortN f.names).take n).map V.str := fun n => List.map_take.symm
  -- the lots
  refine ⟨_, rfl, _, rfl, sz_ok (n := 2) (by decide), fun t0 ht0 => ⟨_, rfl, sz_ok (n := 1) (by decide), fun t3 ht3 => ⟨_, rfl, k, (sortN f.names).map V.str, rfl, .inr (((Ex.new (T := T) ht0).trans (Ex.new ht3)).st hkD), fun l3 hl3 => ?_⟩⟩⟩
  have q1 : Ex T HD' (upd HD' t0 (.tup [.str name, .str name])) := Ex.new ht0
  have q2 : Ex T (upd HD' t0 (.tup [.str name, .str name])) (upd (upd HD' t0 (.tup [.str name, .str name])) t3 (.tup [x])) := Ex.new ht3
  have q3 : Ex T (upd (upd HD' t0 (.tup [.str name, .str name])) t3 (.tup [x])) (upd (upd (upd HD' t0 (.tup [.str name, .str name])) t3 (.tup [x])) l3 (.lst ((sortN f.names).map V.str))) := Ex.new hl3
  have b0 : SqT K (upd (upd (upd HD' t0 (.tup [.str name, .str name])) t3 (.tup [x])) l3 (.lst ((sortN f.names).map V.str))) t0 [.str name, .str name] := (q2.trans q3).st (.inl (.inl upd_same))
  have b1 : SqT K (upd (upd (upd HD' t0 (.tup [.str name, .str name])) t3 (.tup [x])) l3 (.lst ((sortN f.names).map V.str))) t3 [x] := q3.st (.inl (.inl upd_same))
  have b2 : SqL K (upd (upd (upd HD' t0 (.tup [.str name, .str name])) t3 (.tup [x])) l3 (.lst ((sortN f.names).map V.str))) l3 ((sortN f.names).map V.str) := .inl (.inl upd_same)
  have q123 := (q1.trans q2).trans q3
  generalize (upd (upd (upd HD' t0 (.tup [.str name, .str name])) t3 (.tup [x])) l3 (.lst ((sortN f.names).map V.str))) = HE at *
  refine ⟨_, rfl, _, rfl, _, rfl, _, rfl, take_sq (T := T) (q123.st hkD) fun HF p1 eF h1 => ?_⟩
  refine ⟨_, rfl, sz_ok (n := 1) (by decide), fun p2 hp2 => ?_⟩
  have eG : Ex T HF (upd HF p2 (.tup [x])) := Ex.new hp2
  refine cat_sq (T := T) (eG.st h1) (.inl (.inl upd_same)) (by rw [List.length_take, List.length_map]; simp only [List.length_singleton]; omega) fun HH p3 eH h3 => ?_
  refine ⟨_, rfl, _, rfl, _, rfl, ?_⟩
  have eEH := (eF.trans eG).trans eH
  show rSlA K (.ref k) (some (i : Int)) none HH (fun y H2 => rCatA K (.ref p3) y H2 _)
  refine drop_sq (T := T) (k := i) (eEH.st (q123.st hkD)) fun HI p4 eI h4 => ?_
  refine cat_sq (T := T) (eI.st h3) h4 (by rw [List.length_append, List.length_take, List.length_drop, List.length_map]; simp only [List.length_singleton]; omega) fun HJ p5 eJ h5' => ?_
  have eEJ := (eEH.trans eI).trans eJ
  refine ⟨_, rfl, k, _, rfl, eEJ.st (q123.st hkD), fun p6 hp6 => ⟨_, rfl, ?_⟩⟩
  have eK : Ex T HJ (upd HJ p6 (.tup ((sortN f.names).map V.str).reverse)) := Ex.new hp6
  refine cat_sq (T := T) (.inl (.inl upd_same)) ((eEJ.trans eK).st (q123.st hkD)) (by rw [List.length_reverse, List.length_map]; omega) fun HL p7 eL h7 d7 hd7 => ⟨sz_ok (n := 8) (by decide), fun ll hll => ?_⟩
  have eM : Ex T HL (upd HL d7 (.dK [])) := Ex.new hd7
  have b7 : (upd HL d7 (.dK [])) d7 = some (.dK []) := upd_same
  generalize (upd HL d7 (.dK [])) = HM at *
  have eN : Ex T HM (upd HM ll (.lst [.ref t0, .ref t3, .ref l3, .str name, .non, .ref p5, .ref p7, .ref d7])) := Ex.new hll
  have blr : (upd HM ll (.lst [.ref t0, .ref t3, .ref l3, .str name, .non, .ref p5, .ref p7, .ref d7])) ll = some (.lst [.ref t0, .ref t3, .ref l3, .str name, .non, .ref p5, .ref p7, .ref d7]) := upd_same
  have bl : SqL K (upd HM ll (.lst [.ref t0, .ref t3, .ref l3, .str name, .non, .ref p5, .ref p7, .ref d7])) ll [.ref t0, .ref t3, .ref l3, .str name, .non, .ref p5, .ref p7, .ref d7] := .inl (.inl upd_same)
  generalize (upd HM ll (.lst [.ref t0, .ref t3, .ref l3, .str name, .non, .ref p5, .ref p7, .ref d7])) = HN at *
  have eJN := ((eK.trans eL).trans eM).trans eN
  have eEN := eEJ.trans eJN
  have eDN := q123.trans eEN
  have ksq : (sortN f.names).Pairwise fun a b => leS a b = true := sortN_sorted _
  have kdK : ∀ H', ∀ y ∈ (sortN f.names).map V.str, ∃ tn, Kd K H' y tn := fun H' => kd_strs nmK
  have bad : ∀ y ∈ [V.ref t0, .ref t3, .ref l3, .str name, .non, .ref p5, .ref p7, .ref d7], BadLot K HN y f.names := by
    intro y hy
    simp only [List.mem_cons, List.not_mem_nil, or_false] at hy
    rcases hy with rfl | rfl | rfl | rfl | rfl | rfl | rfl | rfl
    · exact bad_tup (eEN.st b0) (Nat.lt_of_le_of_lt (Nat.le_refl 2) (by decide)) (kd_strs (L := [name, name]) fun s hs => by simp at hs; rw [hs]; exact nmN) (lot_dup (L := [name, name]) (by simp))
    · exact bad_tup (eEN.st b1) (Nat.lt_of_le_of_lt (Nat.le_refl 1) (by decide)) (fun z hz => by rw [List.mem_singleton.mp hz]; exact (oddD.mv eDN).kd) (lot_odd (oddD.mv eDN) List.mem_cons_self)
    · exact bad_kd (.lst (eEN.sl b2)) (by decide)
    · exact bad_kd (.str name (by omega)) (by decide)
    · exact bad_kd .non (by decide)
    · refine bad_tup (eJN.st h5') (by rw [List.length_append, List.length_append, List.length_take, List.length_drop, List.length_map, List.length_singleton]; omega) (fun z hz => ?_) (lot_odd (oddD.mv eDN) (by simp))
      rcases List.mem_append.mp hz with hz | hz
      · rcases List.mem_append.mp hz with hz | hz
        · exact kdK _ z (List.mem_of_mem_take hz)
        · rw [List.mem_singleton.mp hz]; exact (oddD.mv eDN).kd
      · exact kdK _ z (List.mem_of_mem_drop hz)
    · have e7 : ((sortN f.names).map V.str).reverse ++ (sortN f.names).map V.str = ((sortN f.names).reverse ++ sortN f.names).map V.str := by rw [List.map_append, List.map_reverse]
      rw [e7] at h7
      refine bad_tup ((eM.trans eN).st h7) (by rw [List.length_map, List.length_append, List.length_reverse]; omega) (kd_strs fun s hs => ?_) (lot_dup fun nd => ?_)
      · rcases List.mem_append.mp hs with hs | hs
        · exact nmK s (List.mem_reverse.mp hs)
        · exact nmK s hs
      · obtain ⟨_, _, no⟩ := List.nodup_append.mp nd
        exact no name (List.mem_reverse.mpr hname) name hname rfl
    · exact bad_kd (.dic (eN.dK b7)) (by decide)
  have eHN := eBD.trans eDN
  refine name_id ?_
  dsimp only
  refine seq_cps (fun σ' H' => ∃ (la : Addr) (zs : List V), σ' = [some (.ref h), some v, some (.ref k), some (.ref pa), some (.int (i : Int)), some (.str o), some (.ref la), none, some (.str name), some m, some x, none] ∧ Ex T HN H' ∧ SqL K H' la zs ∧ (∀ y ∈ zs, BadLot K H' y f.names) ∧ zs.length ≤ 10) ?_ (fun N hN => ?_)
  · rintro σ' H' ⟨la, zs, rfl, eP, hla, hbad, zl⟩
    refine ⟨_, rfl, la, rfl, ⟨zs, hla⟩, ?_⟩
    refine for_it (walk_list (xs := zs)) (fun j σ H2 => ∃ y7 : Option V, σ = [some (.ref h), some v, some (.ref k), some (.ref pa), some (.int (i : Int)), some (.str o), some (.ref la), y7, some (.str name), some m, some x, none] ∧ Ex T H' H2) ⟨none, rfl, Ex.refl _⟩ ?_ ?_ ?_
    · rintro j σ H2 _ ⟨_, _, e⟩
      exact e.sl hla
    · rintro j y σ H2 H3 hj ⟨y7, rfl, eQ⟩ ⟨rfl, hy⟩
      have by0 := hbad y (List.mem_of_getElem? hy)
      have eH3 := eHN.trans (eP.trans eQ)
      refine ifS_cps (fun _ => False) (fun H1 => Ex T H3 H1) (fun R _ r0 => ?_) (fun _ z => z.elim) (fun H4 eR => ?_)
      · refine heard_no (eH3.tabs hT) (by decide +kernel) (by decide +kernel) (.inr ⟨rfl, rfl⟩) (fun HX E Q' eX hE => ?_) r0
        exact ⟨_, rfl, _, rfl, _, rfl, v, f, pa, ρ, y, rfl, (eH3.trans eX).dp hv, hok, hdep, hp.ex (eH3.trans eX), (by0.ex eQ).ex eX, hE⟩
      · exact ⟨_, rfl, eQ.trans eR⟩
    · rintro σ H2 ⟨y7, rfl, eQ⟩
      exact q _ (eHN.trans (eP.trans eQ))
  · refine ⟨_, rfl, k, _, rfl, .inr (eHN.st hks), _, 1, rfl, rfl, _, rfl, ?_⟩
    refine if_dec (fun z => ?_) fun z => ?_
    · rw [List.length_map] at z
      have lt : 1 < (sortN f.names).length := by omega
      have hkN := eHN.st hks
      refine ⟨_, rfl, _, rfl, k, _, rfl, hkN, fun p8 hp8 => ?_⟩
      have u1 : Ex T HN (upd HN p8 (.tup ((sortN f.names).map V.str).reverse)) := Ex.new hp8
      have c8 : SqT K (upd HN p8 (.tup ((sortN f.names).map V.str).reverse)) p8 ((sortN f.names).map V.str).reverse := .inl (.inl upd_same)
      generalize (upd HN p8 (.tup ((sortN f.names).map V.str).reverse)) = HP at *
      refine ⟨_, rfl, 1, rfl, ?_⟩
      have hkP := u1.st hkN
      unfold tNoPart
      dsimp only
      refine drop_sq' (T := T) (k := 1) (z := 1) rfl hkP fun HQ p9 u2 c9 => ?_
      refine ⟨_, rfl, 1, rfl, ?_⟩
      dsimp only
      refine take_sq (T := T) (k := 1) (u2.st hkP) fun HR p10 u3 c10 => ?_
      refine cat_sq (T := T) (u3.st c9) c10 (by rw [List.length_drop, List.length_take, List.length_map]; omega) fun HS p11 u4 c11 => ⟨sz_ok (n := 2) (by decide), fun l12 hl12 => ?_⟩
      have u5 : Ex T HS (upd HS l12 (.lst [.ref p8, .ref p11])) := Ex.new hl12
      have c12 : (upd HS l12 (.lst [.ref p8, .ref p11])) l12 = some (.lst [.ref p8, .ref p11]) := upd_same
      generalize (upd HS l12 (.lst [.ref p8, .ref p11])) = HT at *
      have uP := ((u2.trans u3).trans u4).trans u5
      have uT := u1.trans uP
      refine ⟨ll, l12, _, _, rfl, rfl, uT.lst blr, c12, sz_ok (Nat.le_trans (Nat.le_refl 10) (by decide)), fun p13 hp13 => ?_⟩
      have u6 : Ex T HT (upd HT p13 (.lst ([.ref t0, .ref t3, .ref l3, .str name, .non, .ref p5, .ref p7, .ref d7] ++ [.ref p8, .ref p11]))) := Ex.new hp13
      refine hN _ _ ⟨p13, _, rfl, uT.trans u6, .inl (.inl upd_same), fun y hy => ?_, Nat.le_refl 10⟩
      rcases List.mem_append.mp hy with hy | hy
      · exact (bad y hy).ex (uT.trans u6)
      · simp only [List.mem_cons, List.not_mem_nil, or_false] at hy
        rcases hy with rfl | rfl
        · have e8 : ((sortN f.names).map V.str).reverse = ((sortN f.names).reverse).map V.str := List.map_reverse.symm
          rw [e8] at c8
          exact bad_tup ((uP.trans u6).st c8) (by rw [List.length_map, List.length_reverse]; omega) (kd_strs fun s hs => nmK s (List.mem_reverse.mp hs)) (lot_turn ksq (List.reverse_perm _) (rev_ne ksn lt))
        · have e9 : ((sortN f.names).map V.str).drop 1 ++ ((sortN f.names).map V.str).take 1 = ((sortN f.names).drop 1 ++ (sortN f.names).take 1).map V.str := by rw [List.map_append, List.map_drop, List.map_take]
          rw [e9] at c11
          have perm : ((sortN f.names).drop 1 ++ (sortN f.names).take 1).Perm (sortN f.names) := by
            have := List.perm_append_comm (l₁ := (sortN f.names).drop 1) (l₂ := (sortN f.names).take 1)
            rwa [List.take_append_drop] at this
          exact bad_tup ((u5.trans u6).st c11) (by rw [List.length_map, perm.length_eq]; omega) (kd_strs fun s hs => nmK s (perm.mem_iff.mp hs)) (lot_turn ksq perm (turn_ne ksn lt))
    · exact hN _ _ ⟨ll, _, rfl, Ex.refl _, bl, bad, Nat.le_trans (Nat.le_refl 8) (by decide)⟩
end
end K23
/-! P5: the formula of the tea; literals. -/
namespace K23
open PySem PySem.Spec PyProof.Rows L2
abbrev sBag : Str := "bag"
abbrev sCup : Str := "cup"
abbrev sLeaf : Str := "leaf"
abbrev sTag : Str := "tag"
def tea : Fm Str := .node true [.kind sCup, .many 2 (.node false [.kind sLeaf, .node true [.kind sBag, .kind sTag]])]
theorem ne1 : sBag ≠ sCup := by decide +kernel
theorem ne2 : sBag ≠ sLeaf := by decide +kernel
theorem ne3 : sBag ≠ sTag := by decide +kernel
theorem ne4 : sCup ≠ sLeaf := by decide +kernel
theorem ne5 : sCup ≠ sTag := by decide +kernel
theorem ne6 : sLeaf ≠ sTag := by decide +kernel
theorem tea_names : tea.names = [sCup, sLeaf, sBag, sTag] := by
  unfold tea
  simp [Fm.names, namesL]
theorem tea_nd : tea.names.Nodup := by rw [tea_names]; decide +kernel
theorem tea_sort : sortN tea.names = [sBag, sCup, sLeaf, sTag] := by
  rw [tea_names]
  have p : ([sCup, sLeaf, sBag, sTag] : List Str).Perm [sBag, sCup, sLeaf, sTag] := by decide +kernel
  rw [sortN_perm_eq p]
  refine sortN_of ?_
  decide +kernel
theorem nm_of {s : Str} (h1 : 1 ≤ s.length) (h5 : s.length ≤ 5) (h : s.cps.toList.all (fun c => decide (97 ≤ c ∧ c ≤ 122)) = true) : IsNm s := ⟨h1, h5, fun c hc => of_decide_eq_true (List.all_eq_true.mp h c hc)⟩
theorem tea_ok : FmOk tea := by
  refine ⟨?_, tea_nd, by rw [tea_names]; decide, ?_⟩
  · unfold tea
    simp [Wf]
  · rw [tea_names]
    intro s hs
    simp only [List.mem_cons, List.not_mem_nil, or_false] at hs
    rcases hs with rfl | rfl | rfl | rfl
    · exact nm_of (by decide +kernel) (by decide +kernel) (by decide +kernel)
    · exact nm_of (by decide +kernel) (by decide +kernel) (by decide +kernel)
    · exact nm_of (by decide +kernel) (by decide +kernel) (by decide +kernel)
    · exact nm_of (by decide +kernel) (by decide +kernel) (by decide +kernel)
theorem tea_dep : depth tea < 24 := by
  unfold tea
  simp [depth, depthL]
section
variable {ρ : Str → Int} {m : Int}
theorem tea_num : num ρ tea = min (ρ sCup) ((ρ sLeaf + min (ρ sBag) (ρ sTag)) / 2) := by
  unfold tea
  simp [num_and, num_or, num_many, num_kind, lmin]
theorem tea_bag : target ρ sBag tea m = if m ≤ ρ sCup then (if m * 2 - ρ sLeaf ≤ ρ sTag then some (m * 2 - ρ sLeaf) else none) else none := by
  unfold tea
  simp [target_and, target_or, target_many, target_kind, targetL, others, Fm.names, namesL, lmin, num_kind, ne1, ne2, ne3]
theorem tea_tag : target ρ sTag tea m = if m ≤ ρ sCup then (if m * 2 - ρ sLeaf ≤ ρ sBag then some (m * 2 - ρ sLeaf) else none) else none := by
  unfold tea
  simp [target_and, target_or, target_many, target_kind, targetL, others, Fm.names, namesL, lmin, num_kind, ne3.symm, ne5.symm, ne6.symm]
theorem tea_leaf : target ρ sLeaf tea m = if m ≤ ρ sCup then some (m * 2 - min (ρ sBag) (ρ sTag)) else none := by
  unfold tea
  simp [target_and, target_or, target_many, target_kind, targetL, others, Fm.names, namesL, lmin, num_kind, num_and, ne2.symm, ne4.symm, ne6]
theorem tea_cup : target ρ sCup tea m = if m ≤ (ρ sLeaf + min (ρ sBag) (ρ sTag)) / 2 then some m else none := by
  unfold tea
  simp [target_and, target_or, target_many, target_kind, targetL, others, Fm.names, namesL, lmin, num_kind, num_and, num_or, num_many, ne1.symm, ne4, ne5]
theorem tea_vals {a b c d : Int} (h : [sBag, sCup, sLeaf, sTag].map ρ = [a, b, c, d]) : ρ sBag = a ∧ ρ sCup = b ∧ ρ sLeaf = c ∧ ρ sTag = d := by
  simpa using h
theorem tea_shorts (h : [sBag, sCup, sLeaf, sTag].map ρ = [3, 5, 1, 2]) : shorts ρ tea = [sLeaf, sTag] := by
  obtain ⟨h1, h2, h3, h4⟩ := tea_vals h
  unfold shorts
  have e : num ρ tea + 1 = 2 := by
    rw [tea_num, h1, h2, h3, h4]
    decide
  rw [tea_sort, e]
  have e1 : (target ρ sBag tea 2).isSome = false := by rw [tea_bag, h2, h3, h4]; decide
  have e2 : (target ρ sCup tea 2).isSome = false := by rw [tea_cup, h1, h3, h4]; decide
  have e3 : (target ρ sLeaf tea 2).isSome = true := by rw [tea_leaf, h1, h2, h4]; decide
  have e4 : (target ρ sTag tea 2).isSome = true := by rw [tea_tag, h1, h2, h3]; decide
  rw [List.filter_cons, List.filter_cons, List.filter_cons, List.filter_cons, e1, e2, e3, e4]
  rfl
theorem tea_n1 (h : [sBag, sCup, sLeaf, sTag].map ρ = [3, 5, 1, 2]) : need ρ sTag tea 2 = some 3 := by
  obtain ⟨h1, h2, h3, h4⟩ := tea_vals h
  unfold need
  rw [tea_tag, h1, h2, h3]
  decide
theorem tea_n2 (h : [sBag, sCup, sLeaf, sTag].map ρ = [3, 9, 1, 0]) : need ρ sLeaf tea 3 = some 6 := by
  obtain ⟨h1, h2, h3, h4⟩ := tea_vals h
  unfold need
  rw [tea_leaf, h1, h2, h4]
  decide
theorem tea_n3 (h : [sBag, sCup, sLeaf, sTag].map ρ = [3, 9, 1, 0]) : need ρ sTag tea 3 = none := by
  obtain ⟨h1, h2, h3, h4⟩ := tea_vals h
  unfold need
  rw [tea_tag, h1, h2, h3]
  decide
theorem tea_e1 (h : [sBag, sCup, sLeaf, sTag].map ρ = [1, 7, 2, 1]) : endless ρ [sBag, sTag] tea = some 7 := by
  obtain ⟨h1, h2, h3, h4⟩ := tea_vals h
  unfold tea
  simp [endless_and, endless_or, endless_many, endless_kind, oMin, oSum, h2, h3, ne1.symm, ne5, ne2.symm, ne6]
theorem tea_e2 : endless ρ [sCup, sLeaf] tea = none := by
  unfold tea
  simp [endless_and, endless_or, endless_many, endless_kind, oMin, oSum]
end
/-- the kind x alone -/
def xF : Fm Str := .kind "x"
theorem x_ok : FmOk xF := by
  refine ⟨Wf.kind.mpr (by decide), by simp [xF, Fm.names], by simp [xF, Fm.names], fun s hs => ?_⟩
  have : s = "x" := by simpa [xF, Fm.names] using hs
  rw [this]
  exact nm_of (by decide +kernel) (by decide +kernel) (by decide +kernel)
theorem x_need {ρ : Str → Int} : need ρ "x" xF (10 ^ 18 + 1) = some (10 ^ 18 + 1) := by
  unfold need xF
  rw [target_kind]
  decide
theorem x_sort : sortN xF.names = [("x" : Str)] := by
  rw [show xF.names = [("x" : Str)] by simp [xF, Fm.names]]
  exact sortN_of (by simp)
end K23
set_option maxHeartbeats 2000000
/-! V15: law. -/
namespace K23
open PySem PySem.Spec PyProof.Rows L2
section
variable {T : Tl} {P : Program} {w : World} {K : PySem.W.Frag} {mg : Str → Option Value} {base : Heap} {A : Nat → Addr} {D : Nat → FuncData} {CN CR fN fR : Addr} {dN dR : FuncData}
/-! ### literals -/
def Lit (T : Tl) (K : PySem.W.Frag) (t : TE) (d : PyData) : Prop := ∀ (σ : L2.St) (H : Hp) (Q : VK), (∀ H' v, Ex T H H' → Dp K H' v d → Q v H') → t σ H Q
def LitA (T : Tl) (K : PySem.W.Frag) (t : TA) (ds : List PyData) : Prop := ∀ (σ : L2.St) (H : Hp) (Q : List V → Hp → Prop), (∀ H' xs, Ex T H H' → DpAll K H' xs ds → Q xs H') → t σ H Q
theorem lit_str {s : Str} : Lit T K (tC (.str s)) (.str s) := fun _ H _ q => q H _ (Ex.refl H) (.str s)
theorem lit_int {i : Int} : Lit T K (tC (.int i)) (.int i) := fun _ H _ q => q H _ (Ex.refl H) (.int i)
theorem litA_nil : LitA T K tNil [] := fun _ H _ q => q H [] (Ex.refl H) .nil
theorem litA_cons {t : TE} {r : TA} {d : PyData} {ds : List PyData} (h1 : Lit T K t d) (h2 : LitA T K r ds) : LitA T K (tCons t r) (d :: ds) := fun σ H Q q =>
  h1 σ H _ fun H1 v e1 d1 => h2 σ H1 _ fun H2 xs e2 d2 => q H2 (v :: xs) (e1.trans e2) (.cons (e2.dp d1) d2)
theorem lit_tup {t : TA} {ds : List PyData} (h : LitA T K t ds) (few : ds.length ≤ 1000) : Lit T K (tTup t) (.tuple ds) := fun σ H Q q =>
  h σ H _ fun H1 xs e1 d1 => ⟨sz_ok (by rw [dpa_len d1]; omega), fun p hp => q _ (.ref p) (e1.trans (Ex.new hp)) (.tup (.inl (.inl upd_same)) ((Ex.new (T := T) hp).dpa d1))⟩
theorem lit_kind {s : Str} : Lit T K (tTup (tCons (tC (.str "kind")) (tCons (tC (.str s)) tNil))) (enc (.kind s)) := by
  rw [enc_kind]
  exact lit_tup (litA_cons lit_str (litA_cons lit_str litA_nil)) (by simp)
theorem lit_node {b : Bool} {wd : Str} {t : TA} {ps : List (Fm Str)} (hw : wd = (if b = true then ("and" : Str) else ("or" : Str))) (h : LitA T K t (ps.map enc)) (few : ps.length ≤ 1000) : Lit T K (tTup (tCons (tC (.str wd)) (tCons (tTup t) tNil))) (enc (.node b ps)) := by
  rw [enc_node, ← hw]
  exact lit_tup (litA_cons lit_str (litA_cons (lit_tup h (by rw [List.length_map]; exact few)) litA_nil)) (by simp)
theorem lit_many {n : Nat} {t : TE} {p : Fm Str} (h : Lit T K t (enc p)) : Lit T K (tTup (tCons (tC (.str "many")) (tCons (tC (.int (n : Int))) (tCons t tNil)))) (enc (.many n p)) := by
  rw [enc_many]
  exact lit_tup (litA_cons lit_str (litA_cons lit_int (litA_cons h litA_nil))) (by simp)
abbrev tKd (s : Str) : TE := tTup (tCons (tC (.str "kind")) (tCons (tC (.str s)) tNil))
theorem lit_tea : Lit T K (tTup (tCons (tC (.str "and")) (tCons (tTup (tCons (tKd "cup") (tCons (tTup (tCons (tC (.str "many")) (tCons (tC (.int 2)) (tCons (tTup (tCons (tC (.str "or")) (tCons (tTup (tCons (tKd "leaf") (tCons (tTup (tCons (tC (.str "and")) (tCons (tTup (tCons (tKd "bag") (tCons (tKd "tag") tNil))) tNil))) tNil))) tNil))) tNil)))) tNil))) tNil))) (enc tea) := by
  have a1 : Lit T K (tTup (tCons (tC (.str "and")) (tCons (tTup (tCons (tKd "bag") (tCons (tKd "tag") tNil))) tNil))) (enc (.node true [.kind sBag, .kind sTag])) := lit_node rfl (litA_cons lit_kind (litA_cons lit_kind litA_nil)) (by decide)
  have a2 : Lit T K (tTup (tCons (tC (.str "or")) (tCons (tTup (tCons (tKd "leaf") (tCons (tTup (tCons (tC (.str "and")) (tCons (tTup (tCons (tKd "bag") (tCons (tKd "tag") tNil))) tNil))) tNil))) tNil))) (enc (.node false [.kind sLeaf, .node true [.kind sBag, .kind sTag]])) := lit_node rfl (litA_cons lit_kind (litA_cons a1 litA_nil)) (by simp)
  exact lit_node rfl (litA_cons lit_kind (litA_cons (lit_many (n := 2) a2) litA_nil)) (by simp)
theorem lit_four {a b c d : Int} : Lit T K (tTup (tCons (tC (.int a)) (tCons (tC (.int b)) (tCons (tC (.int c)) (tCons (tC (.int d)) tNil))))) (tupI [a, b, c, d]) :=
  lit_tup (litA_cons lit_int (litA_cons lit_int (litA_cons lit_int (litA_cons lit_int litA_nil)))) (by simp)
theorem lit_two {a b : Str} : Lit T K (tTup (tCons (tC (.str a)) (tCons (tC (.str b)) tNil))) (tupS [a, b]) :=
  lit_tup (litA_cons lit_str (litA_cons lit_str litA_nil)) (by simp)
theorem tea_pool {H : Hp} {v : V} {a b c d : Int} (h : Dp K H v (tupI [a, b, c, d])) (b1 : ∀ x ∈ [a, b, c, d], 0 ≤ x ∧ x ≤ 10 ^ 18) : ∃ (p : Addr) (ρ : Str → Int), v = .ref p ∧ [sBag, sCup, sLeaf, sTag].map ρ = [a, b, c, d] ∧ PoolAt K H p tea.names ρ := by
  obtain ⟨p, rfl, hp⟩ := Dp.tup_ints h
  obtain ⟨ρ, hρ⟩ := pool_fun (Ks := [sBag, sCup, sLeaf, sTag]) (ps := [a, b, c, d]) (by decide +kernel) rfl
  refine ⟨p, ρ, rfl, hρ, ?_, fun s hs => ?_⟩
  · rw [tea_sort, pool_map, hρ]
    exact hp
  · refine b1 _ ?_
    rw [← hρ]
    exact List.mem_map.mpr ⟨s, by rw [← tea_sort]; exact mem_sortN.mpr hs, rfl⟩
theorem tcall_id {sp : Sp} {dvs : List V} {E : XK} {t : TA} {σ : L2.St} {H : Hp} {Q : VK} (h : t σ H fun vs H1 => sp (vs ++ dvs) H1 Q E) : tCall sp dvs E t σ H Q := h
theorem top_id {r : R2} {ta tb : TE} {σ : L2.St} {H : Hp} {Q : VK} (h : ta σ H fun x H1 => tb σ H1 fun y H2 => r x y H2 Q) : tOp r ta tb σ H Q := h
theorem ttest_id {t : TE} {σ : L2.St} {H : Hp} {Q : Bool → Hp → Prop} (h : t σ H fun x H' => ∃ k, x = .bl k ∧ Q k H') : tTest t σ H Q := h
def spLaw (T : Tl) (K : PySem.W.Frag) : Sp := fun vs H Q _ => ∃ (sa : Addr) (ns : List Int), vs = [.ref sa] ∧ SqL K H sa (ns.map V.int) ∧ ns.length ≤ 63 ∧ LamX.Tabs T H ∧ ∀ H', Q (.bl true) H'
theorem ok_law (U : Txt K mg A D) (Er : Errs P w K mg base CN CR fN fR dN dR) (hL : LamOk mg base T (D 16) "joined.<locals>.<lambda>") (hR : LamOk mg base T (D 60) "_law_refused_right.<locals>.<lambda>") : FnG P w K mg base 100 (A 62) (D 62) ["_law_script"] (spLaw T K) := by
  have G_l_heap := ok_heap (T := T) (P := P) (w := w) (base := base) U
  have G_l_draw := ok_draw (T := T) (P := P) (w := w) (base := base) U
  have G_l_pick := ok_pick (T := T) (P := P) (w := w) (base := base) U
  have G_l_amount := ok_amount (T := T) (P := P) (w := w) (base := base) U
  have G_l_names := ok_names (T := T) (P := P) (w := w) (base := base) U
  have G_l_formula : FnOk P w K mg base CX0 26 (A 45) (D 45) ["_law_heap_here", "_law_names_here", "_law_room"] (spForm T K 24) := ok_formula U 24
  have G_l_ways : FnOk P w K mg base CX0 25 (A 47) (D 47) ["_law_formula_here", "_law_kinds"] (spWays T K 24) := ok_ways U 24
  have G_l_needed_right : FnG P w K mg base 60 (A 55) (D 55) ["_law_heap_here", "_law_formula_here", "_law_kinds", "_law_ways_here", "_law_pool"] (spNR T K) := ok_needed_right U
  have G_l_lots_right : FnG P w K mg base 60 (A 57) (D 57) ["_law_heap_here", "_law_formula_here", "_law_kinds", "_law_ways_here", "_law_pool"] (spLR T K) := ok_lots_right U hL
  have G_l_refused_right : FnOk P w K mg base CX0 60 (A 60) (D 60) ["_law_heap_here", "_law_formula_here", "_law_kinds", "_law_pool"] (spRR T K) := ok_refused_right U Er hR
  have G_l_flat_right : FnG P w K mg base 60 (A 61) (D 61) ["_law_heap_here"] (spFR T) := ok_flat_right U
  have G_needed : FnOk P w K mg base CX0 49 (A 26) (D 26) ["formula", "pool", "kind", "many"] (spNeed T K) := ok_needed U
  have G_short_kinds : FnOk P w K mg base CX0 49 (A 27) (D 27) ["formula", "pool"] (spShort T K) := ok_short_kinds U
  have G_pieces_with_plenty : FnOk P w K mg base CX0 28 (A 29) (D 29) ["formula", "pool", "lot"] (spPlenty T K) := ok_pieces_with_plenty U
  refine okG (F_law U) sc_law (fun vs H Q E h => by obtain ⟨_, _, rfl, _⟩ := h; rfl) (fun cdv A' outer s H vs Q E hr hG h => ?_)
  obtain ⟨sa, ns, rfl, hsa, hns, hT, q⟩ := h
  refine ⟨_, PSs.nox (pss_cons
      (ps_set (i := 1) sc_law.nd rfl (.inr rfl) (pe_f G_l_heap hr (by omega) (g_l_heap U) (F_l_heap U).kp (b_l_heap U) (pa_cons (pv 0) pa_nil)))
      (pss_cons
      (ps_for PassesOwn.never rfl (pi_range1 (by rfl) (z_range U) (pa_cons pe_int pa_nil)) (pg_name (i := 2) sc_law.nd rfl (.inl rfl))
       (pss_cons
       (ps_set (i := 3) sc_law.nd rfl (.inl rfl) (pe_op op_add pe_int (pe_f G_l_draw hr (by omega) (g_l_draw U) (F_l_draw U).kp (b_l_draw U) (pa_cons (pv 1) (pa_cons pe_int pa_nil)))))
       (pss_cons
       (ps_set (i := 4) sc_law.nd rfl (.inl rfl) (pe_f G_l_names hr (by omega) (g_l_names U) (F_l_names U).kp (b_l_names U) (pa_cons (pv 1) (pa_cons (pv 3) pa_nil))))
       (pss_cons
       (ps_par (i := 5) (j := 6) rfl sc_law.nd rfl rfl  (by decide)  rfl rfl  (pa_cons (pe_f G_l_formula hr (by omega) (g_l_formula U) (F_l_formula U).kp (b_l_formula U) (pa_cons (pv 1) (pa_cons (pv 4) (pa_cons (pe_ix (kx_list K) (pe_lst (pa_cons pe_int (pa_cons pe_int (pa_cons pe_int (pa_cons pe_int (pa_cons pe_int pa_nil)))))) (pe_op op_sub (pv 3) pe_int) (fun _ _ => rfl)) pa_nil)))) (pa_cons (pe_callTy (kc_tuple K) (by rfl) (z_tuple U) boot_tuple (pa_cons (pe_callB (kc_sortedS K) (by rfl) (z_sorted U) boot_sorted (pa_cons (pv 4) pa_nil)) pa_nil)) pa_nil)) (by kernel_rfl))
       (pss_cons
       (ps_set (i := 7) sc_law.nd rfl (.inl rfl) (pe_f G_l_ways hr (by omega) (g_l_ways U) (F_l_ways U).kp (b_l_ways U) (pa_cons (pv 5) (pa_cons (pv 6) pa_nil))))
       (pss_cons
       (ps_set (i := 8) sc_law.nd rfl (.inl rfl) (pe_callTy (kc_tuple K) (by rfl) (z_tuple U) boot_tuple (pa_cons (pe_lc (g := gName 12) (tt := tYes) rfl sc_law.nd (ki_tup K (pv 6)) (blkOk_by (N := N_law) (own := [("_law_kind", 12)]) (by kernel_rfl)) (fun _ _ _ _ _ => (pg_name (i := 12) sc_law.nd rfl (.inl rfl))) (fun _ _ _ _ _ => pts_nil) (fun _ _ _ _ _ => (pe_op op_mul (pe_f G_l_draw hr (by omega) (g_l_draw U) (F_l_draw U).kp (b_l_draw U) (pa_cons (pv 1) (pa_cons pe_int pa_nil))) (pe_f G_l_pick hr (by omega) (g_l_pick U) (F_l_pick U).kp (b_l_pick U) (pa_cons (pv 1) (pa_cons (pe_lst (pa_cons pe_int (pa_cons pe_int (pa_cons pe_int (pa_cons pe_int pa_nil))))) pa_nil)))))) pa_nil)))
       (pss_cons
       (ps_set (i := 9) sc_law.nd rfl (.inl rfl) (pe_callTy (kc_tuple K) (by rfl) (z_tuple U) boot_tuple (pa_cons (pe_lc (g := gName 12) (tt := tYes) rfl sc_law.nd (ki_tup K (pv 6)) (blkOk_by (N := N_law) (own := [("_law_kind", 12)]) (by kernel_rfl)) (fun _ _ _ _ _ => (pg_name (i := 12) sc_law.nd rfl (.inl rfl))) (fun _ _ _ _ _ => pts_nil) (fun _ _ _ _ _ => (pe_f G_l_amount hr (by omega) (g_l_amount U) (F_l_amount U).kp (b_l_amount U) (pa_cons (pv 1) pa_nil)))) pa_nil)))
       (pss_cons
       (ps_for PassesOwn.never rfl (ki_list K (pe_lst (pa_cons (pv 8) (pa_cons (pv 9) pa_nil)))) (pg_name (i := 10) sc_law.nd rfl (.inl rfl))
        (pss_one
        (ps_if (PW.pt (pw_or (pt_not (pt_val (pe_g G_l_needed_right hG hr (by omega) (g_l_needed_right U) (F_l_needed_right U).kp (b_l_needed_right U) (pa_cons (pv 1) (pa_cons (pv 5) (pa_cons (pv 6) (pa_cons (pv 7) (pa_cons (pv 10) pa_nil)))))))) (pw_or1 (pt_not (pt_val (pe_g G_l_lots_right hG hr (by omega) (g_l_lots_right U) (F_l_lots_right U).kp (b_l_lots_right U) (pa_cons (pv 1) (pa_cons (pv 5) (pa_cons (pv 6) (pa_cons (pv 7) (pa_cons (pv 10) pa_nil)))))))))))
         (pss_one
         (ps_ret pe_bl))
         pss_nil)))
       (pss_one
       (ps_if (pt_not (pt_val (pe_f G_l_refused_right hr (by omega) (g_l_refused_right U) (F_l_refused_right U).kp (b_l_refused_right U) (pa_cons (pv 1) (pa_cons (pv 5) (pa_cons (pv 6) (pa_cons (pv 8) pa_nil)))))))
        (pss_one
        (ps_ret pe_bl))
        pss_nil))))))))))
      (pss_cons
      (ps_if (pt_not (pt_val (pe_g G_l_flat_right hG hr (by omega) (g_l_flat_right U) (F_l_flat_right U).kp (b_l_flat_right U) (pa_cons (pv 1) pa_nil))))
       (pss_one
       (ps_ret pe_bl))
       pss_nil)
      (pss_cons
      (ps_set (i := 11) sc_law.nd rfl (.inl rfl) (pe_tup (pa_cons pe_str (pa_cons (pe_tup (pa_cons (pe_tup (pa_cons pe_str (pa_cons pe_str pa_nil))) (pa_cons (pe_tup (pa_cons pe_str (pa_cons pe_int (pa_cons (pe_tup (pa_cons pe_str (pa_cons (pe_tup (pa_cons (pe_tup (pa_cons pe_str (pa_cons pe_str pa_nil))) (pa_cons (pe_tup (pa_cons pe_str (pa_cons (pe_tup (pa_cons (pe_tup (pa_cons pe_str (pa_cons pe_str pa_nil))) (pa_cons (pe_tup (pa_cons pe_str (pa_cons pe_str pa_nil))) pa_nil))) pa_nil))) pa_nil))) pa_nil))) pa_nil)))) pa_nil))) pa_nil))))
      (pss_cons
      (ps_if (PW.pt (pw_or (pt_cmpR (ko_neD K hr.units) (pe_f G_short_kinds hr (by omega) (g_short_kinds U) (F_short_kinds U).kp (b_short_kinds U) (pa_cons (pv 11) (pa_cons (pe_tup (pa_cons pe_int (pa_cons pe_int (pa_cons pe_int (pa_cons pe_int pa_nil))))) pa_nil))) (pe_tup (pa_cons pe_str (pa_cons pe_str pa_nil))) (nomark _)) (pw_or1 (pt_cmpR op_ne (pe_f G_needed hr (by omega) (g_needed U) (F_needed U).kp (b_needed U) (pa_cons (pv 11) (pa_cons (pe_tup (pa_cons pe_int (pa_cons pe_int (pa_cons pe_int (pa_cons pe_int pa_nil))))) (pa_cons pe_str (pa_cons pe_int pa_nil))))) pe_int (nomark _)))))
       (pss_one
       (ps_ret pe_bl))
       pss_nil)
      (pss_cons
      (ps_if (PW.pt (pw_or (pt_cmpR op_ne (pe_f G_needed hr (by omega) (g_needed U) (F_needed U).kp (b_needed U) (pa_cons (pv 11) (pa_cons (pe_tup (pa_cons pe_int (pa_cons pe_int (pa_cons pe_int (pa_cons pe_int pa_nil))))) (pa_cons pe_str (pa_cons pe_int pa_nil))))) pe_int (nomark _)) (pw_or1 (pt_cmpR op_notN (pe_f G_needed hr (by omega) (g_needed U) (F_needed U).kp (b_needed U) (pa_cons (pv 11) (pa_cons (pe_tup (pa_cons pe_int (pa_cons pe_int (pa_cons pe_int (pa_cons pe_int pa_nil))))) (pa_cons pe_str (pa_cons pe_int pa_nil))))) pe_non (nomark _)))))
       (pss_one
       (ps_ret pe_bl))
       pss_nil)
      (pss_cons
      (ps_if (pt_cmpR op_ne (pe_f G_needed hr (by omega) (g_needed U) (F_needed U).kp (b_needed U) (pa_cons (pe_tup (pa_cons pe_str (pa_cons pe_str pa_nil))) (pa_cons (pe_tup (pa_cons pe_int pa_nil)) (pa_cons pe_str (pa_cons (pe_op op_add (pe_op op_pow pe_int pe_int) pe_int) pa_nil))))) (pe_op op_add (pe_op op_pow pe_int pe_int) pe_int) (nomark _))
       (pss_one
       (ps_ret pe_bl))
       pss_nil)
      (pss_one
      (ps_ret (pe_and (pe_cmpR op_eq (pe_f G_pieces_with_plenty hr (by omega) (g_pieces_with_plenty U) (F_pieces_with_plenty U).kp (b_pieces_with_plenty U) (pa_cons (pv 11) (pa_cons (pe_tup (pa_cons pe_int (pa_cons pe_int (pa_cons pe_int (pa_cons pe_int pa_nil))))) (pa_cons (pe_tup (pa_cons pe_str (pa_cons pe_str pa_nil))) pa_nil)))) pe_int (nomark _)) (pe_one (pe_cmpR op_isN (pe_f G_pieces_with_plenty hr (by omega) (g_pieces_with_plenty U) (F_pieces_with_plenty U).kp (b_pieces_with_plenty U) (pa_cons (pv 11) (pa_cons (pe_tup (pa_cons pe_int (pa_cons pe_int (pa_cons pe_int (pa_cons pe_int pa_nil))))) (pa_cons (pe_tup (pa_cons pe_str (pa_cons pe_str pa_nil))) pa_nil)))) pe_non (nomark _))))))))))))), ?_⟩
  refine ⟨_, rfl, sa, ns, rfl, hsa, hns, fun H1 h e1 hh => ?_⟩
  refine ⟨2, rfl, by decide, by decide, ?_⟩
  refine for_it (walk_range (n := 2)) (fun i σ H' => ∃ y2 y3 y4 y5 y6 y7 y8 y9 y10 : Option V, σ = [some (.ref sa), some (.ref h), y2, y3, y4, y5, y6, y7, y8, y9, y10, none, none] ∧ Ex T H1 H') ⟨none, none, none, none, none, none, none, none, none, rfl, Ex.refl _⟩ (fun _ _ _ _ _ => trivial) ?_ ?_
  · rintro i x σ H2 H3 hi ⟨y2, y3, y4, y5, y6, y7, y8, y9, y10, rfl, e2⟩ ⟨rfl, hx⟩
    refine ⟨_, rfl, h, 5, rfl, hh.ex e2, by decide, by decide, fun H4 d e4 d0 d1 => ⟨1, d, rfl, rfl, ?_⟩⟩
    obtain ⟨n, hn⟩ : ∃ n : Nat, 1 + d = (n : Int) := ⟨(1 + d).toNat, by omega⟩
    dsimp only
    rw [hn]
    have e14 := e2.trans e4
    refine ⟨_, rfl, _, rfl, h, n, rfl, hh.ex e14, by omega, by omega, fun H5 nl ns5 fnl e5 hnl nlen nnd nnm nxn => ?_⟩
    have e15 := e14.trans e5
    -- the formula
    refine ⟨_, rfl, _, rfl, sz_ok (n := 5) (by decide), fun rl hrl => ?_⟩
    have e6 : Ex T H5 (upd H5 rl (.lst [.int 12, .int 8, .int 4, .int 3, .int 2])) := Ex.new hrl
    have hroom : atI ([12, 8, 4, 3, 2].map V.int) ((n : Int) - 1) = some (.int (room n : Int)) ∧ 1 ≤ room n ∧ room n ≤ 12 ∧ room n + n < 24 := by
      have : n = 1 ∨ n = 2 ∨ n = 3 ∨ n = 4 ∨ n = 5 := by omega
      rcases this with rfl | rfl | rfl | rfl | rfl <;> exact ⟨by rfl, by decide, by decide, by decide⟩
    refine ⟨_, rfl, (n : Int), 1, rfl, rfl, rl, _, (n : Int) - 1, _, rfl, rfl, .inl (.inl upd_same), hroom.1, ?_⟩
    have e16 := e15.trans e6
    refine ⟨h, nl, ns5, room n, rfl, hh.ex e16, .inl (.inl (e6.lst hnl)), by omega, by omega, hroom.2.1, hroom.2.2.1, by rw [nlen]; exact hroom.2.2.2, fun H7 v f e7 hv wf fns dep => ?_⟩
    have e17 := e16.trans e7
    have dep24 : depth f < 24 := by have := hroom.2.2.2; omega
    refine ⟨_, rfl, nl, ns5, rfl, .inl (.inl ((e6.trans e7).lst hnl)), by omega, fun ks kl pm so hkl => ?_⟩
    obtain rfl : ks = sortN ns5 := sortedS_is pm so
    refine ⟨kl, _, rfl, .inl ⟨.inl (.inl upd_same), fun k hk => ⟨_, _, rfl, ?_⟩⟩⟩
    have e8 : Ex T H7 (upd (upd H7 kl (.lst ((sortN ns5).map V.str))) k (.tup ((sortN ns5).map V.str))) := (Ex.new hkl).trans (Ex.new hk)
    have hks : SqT K (upd (upd H7 kl (.lst ((sortN ns5).map V.str))) k (.tup ((sortN ns5).map V.str))) k ((sortN ns5).map V.str) := .inl (.inl upd_same)
    generalize (upd (upd H7 kl (.lst ((sortN ns5).map V.str))) k (.tup ((sortN ns5).map V.str))) = H8 at *
    have e18 := e17.trans e8
    subst fns
    have hK5 : (sortN f.names).length ≤ 5 := by rw [sortN_len]; omega
    have f5 : f.names.length ≤ 5 := by omega
    have ksn : (sortN f.names).Nodup := (sortN_perm _).nodup_iff.mpr nnd
    have hok : FmOk f := ⟨Wf.mono hroom.2.2.1 wf, nnd, by omega, nnm⟩
    refine ⟨_, rfl, _, rfl, v, f, k, sortN f.names, room n, rfl, e8.dp hv, nnd, f5, wf, by rw [nlen]; exact Nat.le_refl _, dep24, hks, by omega, fun s hs => mem_sortN.mpr hs, fun H9 wa xs V' fwa e9 hwa hxs tells => ?_⟩
    have few := Tells.few tells (fun _ => id) wf f5 (by rw [nlen]; exact Nat.le_refl _)
    have W : WaysOf f (sortN f.names) V' := ⟨hok, tells, fun s => mem_sortN, ksn⟩
    have e19 := e18.trans e9
    have hk9 := e9.st hks
    have knd : ((sortN f.names).map V.str).length = n := by rw [List.length_map, sortN_len]; omega
    -- the small pool
    have amt : ∀ (H' : Hp) (D : Addr) (ys : List V) (ds : List PyData), Paired (fun (_ : Str) d => ∃ r : Int, d = .int r ∧ 0 ≤ r ∧ r ≤ 10 ^ 18) (sortN f.names) ds → DpAll K H' ys ds → ∃ ρ : Str → Int, ys = ((sortN f.names).map ρ).map V.int ∧ ∀ s ∈ f.names, 0 ≤ ρ s ∧ ρ s ≤ 10 ^ 18 := by
      intro H' D ys ds hP hy
      obtain ⟨ps, rfl, plen, hps⟩ := amts_of hP
      have := dpa_ints hy
      subst this
      obtain ⟨ρ, hρ⟩ := pool_fun (ps := ps) ksn plen
      exact ⟨ρ, by rw [hρ], fun s hs => hps _ (by rw [← hρ]; exact List.mem_map.mpr ⟨s, mem_sortN.mpr hs, rfl⟩)⟩
    refine ⟨_, rfl, k, rfl, ⟨_, hk9⟩, fun D9 hD9 => ?_⟩
    refine map_rel (T := T) (K := K) (as := sortN f.names) (fun _ d => ∃ r : Int, d = .int r ∧ 0 ≤ r ∧ r ≤ 10 ^ 18) (walk_tup (xs := (sortN f.names).map V.str)) (List.length_map ..).symm (by omega) (fun H' e => e.st hk9) hD9 (fun _ _ ⟨_, h, _⟩ => by rw [h]; rfl) ?_ ?_
    · rintro j s0 y Ha Hb E _ ea ⟨rfl, _⟩ hE
      refine ⟨rfl, _, rfl, h, 4, rfl, (hh.ex e19).ex ea, by decide, by decide, fun Hc r1 ec r10 r11 => ?_⟩
      refine ⟨_, rfl, sz_ok (n := 4) (by decide), fun pl hpl => ?_⟩
      have ed : Ex T Hc (upd Hc pl (.lst [.int 1, .int 1, .int 2, .int 3])) := Ex.new hpl
      refine ⟨h, pl, [.int 1, .int 1, .int 2, .int 3], rfl, (((hh.ex e19).ex ea).ex ec).ex ed, .inl (.inl (.inl upd_same)), Nat.zero_lt_succ _, Nat.le_trans (Nat.le_refl 4) (by decide), fun Hd x i9 ee hx => ?_⟩
      obtain ⟨b, rfl, b0, b1⟩ : ∃ b : Int, x = .int b ∧ 0 ≤ b ∧ b ≤ 3 := by
        match i9, hx with
        | 0, hx => exact ⟨1, (Option.some.inj hx).symm, by decide, by decide⟩
        | 1, hx => exact ⟨1, (Option.some.inj hx).symm, by decide, by decide⟩
        | 2, hx => exact ⟨2, (Option.some.inj hx).symm, by decide, by decide⟩
        | 3, hx => exact ⟨3, (Option.some.inj hx).symm, by decide, by decide⟩
      have m1 : r1 * b ≤ 3 * 3 := Int.mul_le_mul (by omega) b1 b0 (by decide)
      exact ⟨r1, b, rfl, rfl, .inl ⟨by omega, by omega⟩, hE _ ⟨r1 * b, rfl, Int.mul_nonneg r10 b0, Int.le_trans m1 (by decide)⟩ _ Hd ((ec.trans ed).trans ee) (.int _)⟩
    intro ys HA ds eA hA hP hy
    obtain ⟨ρs, rfl, hs0⟩ := amt HA D9 ys ds hP hy
    refine ⟨D9, _, rfl, .inl ⟨.inl (.inl hA), fun sp hsp => ?_⟩⟩
    have eB : Ex T HA (upd HA sp (.tup (((sortN f.names).map ρs).map V.int))) := Ex.new hsp
    have hspB : SqT K (upd HA sp (.tup (((sortN f.names).map ρs).map V.int))) sp (((sortN f.names).map ρs).map V.int) := .inl (.inl upd_same)
    generalize (upd HA sp (.tup (((sortN f.names).map ρs).map V.int))) = HB at *
    have e1B := e19.trans (eA.trans eB)
    -- the great pool
    refine ⟨_, rfl, k, rfl, ⟨_, (eA.trans eB).st hk9⟩, fun D10 hD10 => ?_⟩
    refine map_rel (T := T) (K := K) (as := sortN f.names) (fun _ d => ∃ r : Int, d = .int r ∧ 0 ≤ r ∧ r ≤ 10 ^ 18) (walk_tup (xs := (sortN f.names).map V.str)) (List.length_map ..).symm (by omega) (fun H' e => e.st ((eA.trans eB).st hk9)) hD10 (fun _ _ ⟨_, h, _⟩ => by rw [h]; rfl) ?_ ?_
    · rintro j s0 y Ha Hb E _ ea ⟨rfl, _⟩ hE
      exact ⟨rfl, _, rfl, h, rfl, (hh.ex e1B).ex ea, fun Hc r ec r0 r1 => hE _ ⟨r, rfl, r0, r1⟩ _ Hc ec (.int r)⟩
    intro ys HC ds eC hC hP hy
    obtain ⟨ρg, rfl, hg0⟩ := amt HC D10 ys ds hP hy
    refine ⟨D10, _, rfl, .inl ⟨.inl (.inl hC), fun gp hgp => ?_⟩⟩
    have eD : Ex T HC (upd HC gp (.tup (((sortN f.names).map ρg).map V.int))) := Ex.new hgp
    have hgpD : SqT K (upd HC gp (.tup (((sortN f.names).map ρg).map V.int))) gp (((sortN f.names).map ρg).map V.int) := .inl (.inl upd_same)
    generalize (upd HC gp (.tup (((sortN f.names).map ρg).map V.int))) = HD at *
    have eBD := eC.trans eD
    have e9D := (eA.trans eB).trans eBD
    have e1D := e19.trans e9D
    have asS : Asked K HD v k wa sp f (sortN f.names) xs V' ρs := ⟨((e8.trans e9).trans e9D).dp hv, dep24, e9D.st hk9, e9D.sl (.inl (.inl hwa)), e9D.dpa hxs, eBD.st hspB, W, rfl, f5, by omega, hs0⟩
    have asG : Asked K HD v k wa gp f (sortN f.names) xs V' ρg := ⟨((e8.trans e9).trans e9D).dp hv, dep24, e9D.st hk9, e9D.sl (.inl (.inl hwa)), e9D.dpa hxs, hgpD, W, rfl, f5, by omega, hg0⟩
    -- the two pools
    refine ⟨_, rfl, _, rfl, sz_ok (n := 2) (by decide), fun ll hll => ?_⟩
    have eE : Ex T HD (upd HD ll (.lst [.ref sp, .ref gp])) := Ex.new hll
    have hllE : SqL K (upd HD ll (.lst [.ref sp, .ref gp])) ll [.ref sp, .ref gp] := .inl (.inl upd_same)
    generalize (upd HD ll (.lst [.ref sp, .ref gp])) = HE at *
    refine ⟨ll, rfl, ⟨_, hllE⟩, ?_⟩
    refine for_it (walk_list (xs := [.ref sp, .ref gp])) (fun j σ H' => ∃ y10 : Option V, σ = [some (.ref sa), some (.ref h), some x, some (.int (n : Int)), some (.ref nl), some v, some (.ref k), some (.ref wa), some (.ref sp), some (.ref gp), y10, none, none] ∧ Ex T HE H') ⟨y10, rfl, Ex.refl _⟩ ?_ ?_ ?_
    · rintro j σ H' _ ⟨_, _, e⟩
      exact e.sl hllE
    · rintro j x2 σ HF HG hj ⟨y10, rfl, eF⟩ ⟨rfl, hx⟩
      obtain ⟨pp, ρ, rfl, as⟩ : ∃ (pp : Addr) (ρ : Str → Int), x2 = .ref pp ∧ Asked K HG v k wa pp f (sortN f.names) xs V' ρ := by
        match j, hj, hx with
        | 0, _, hx => exact ⟨sp, ρs, (Option.some.inj hx).symm, asS.ex (eE.trans eF)⟩
        | 1, _, hx => exact ⟨gp, ρg, (Option.some.inj hx).symm, asG.ex (eE.trans eF)⟩
      have e1G := e1D.trans (eE.trans eF)
      refine ⟨_, rfl, _, rfl, _, rfl, _, rfl, _, rfl, h, k, wa, pp, v, f, _, xs, V', ρ, rfl, hh.ex e1G, as, fun HH eH => ⟨_, rfl, ?_⟩⟩
      refine ⟨_, rfl, _, rfl, _, rfl, _, rfl, _, rfl, h, k, wa, pp, v, f, _, xs, V', ρ, rfl, (hh.ex e1G).ex eH, as.ex eH, few, (e1.trans (e1G.trans eH)).tabs hT, fun HI eI => ⟨_, rfl, ?_⟩⟩
      exact ⟨_, rfl, (eF.trans eH).trans eI⟩
    · rintro σ HF ⟨y10, rfl, eF⟩
      have e1F := e1D.trans (eE.trans eF)
      refine ⟨_, rfl, _, rfl, _, rfl, _, rfl, h, k, sp, v, f, ρs, rfl, hh.ex e1F, (eE.trans eF).dp asS.hv, hok, dep24, f5, (eE.trans eF).st asS.hk, (asS.ex (eE.trans eF)).pool, nxn, (e1.trans e1F).tabs hT, fun HG eG => ⟨_, rfl, ?_⟩⟩
      exact ⟨_, _, _, _, _, _, _, _, _, rfl, e1F.trans eG⟩
  · rintro σ H2 ⟨y2, y3, y4, y5, y6, y7, y8, y9, y10, rfl, e2⟩
    dsimp only
    refine seq_id (ifS_cps (fun _ => False) (fun H1 => Ex T H2 H1) (fun R _ r0 => ?_) (fun _ z => z.elim) (fun H3 e3 => ?_))
    · exact ⟨_, rfl, h, rfl, hh.ex e2, fun H3 e3 => ⟨_, rfl, r0 _ e3⟩⟩
    unfold tNext
    dsimp only
    refine seq_id (asg_id ?_)
    refine lit_tea (T := T) (K := K) _ _ _ fun H4 tv e4 htv => ?_
    have e24 := e2.trans (e3.trans e4)
    dsimp only
    refine name_id ?_
    -- the first two questions
    refine seq_id (ifS_cps (fun _ => False) (fun H1 => Ex T H4 H1) (fun R _ r0 => ?_) (fun _ z => z.elim) (fun H5 e5 => ?_))
    · refine ⟨_, rfl, ?_⟩
      refine cons_id (lit_four (T := T) (K := K) _ _ _ fun H5 pv e5 hpv => ?_)
      obtain ⟨p, ρ, rfl, hρ, pool⟩ := tea_pool hpv (by decide)
      refine ⟨tv, tea, p, ρ, rfl, e5.dp htv, tea_ok, tea_dep, pool, fun H6 q6 f6 e6 h6 => ?_⟩
      rw [tea_shorts hρ] at h6
      refine lit_two (T := T) (K := K) _ _ _ fun H7 lv e7 hlv => ?_
      refine ⟨.tuple ([sLeaf, sTag].map .str), tupS [sLeaf, sTag], .tup (e7.st (SqT.of h6)) (dpa_of_strs [sLeaf, sTag]), hlv, shp_tup_strs (by decide +kernel), shp_tup_strs (by decide +kernel), _, rfl, ?_⟩
      rw [show PyData.eqv (.tuple ([sLeaf, sTag].map .str)) (tupS [sLeaf, sTag]) = true by unfold tupS; rw [eqv_tstrs, decide_eq_true rfl]]
      have e57 := (e5.trans e6).trans e7
      refine ⟨_, rfl, ?_⟩
      refine cons_id (lit_four (T := T) (K := K) _ _ _ fun H8 pv e8 hpv => ?_)
      obtain ⟨p, ρ, rfl, hρ, pool⟩ := tea_pool hpv (by decide)
      refine ⟨tv, tea, p, ρ, "tag", 2, rfl, (e57.trans e8).dp htv, tea_ok, tea_dep, pool, by rw [tea_names]; decide +kernel, by decide, fun H9 e9 => ?_⟩
      rw [tea_n1 hρ]
      exact ⟨rfl, _, rfl, r0 _ ((e57.trans e8).trans e9)⟩
    dsimp only
    refine seq_id (ifS_cps (fun _ => False) (fun H1 => Ex T H4 H1) (fun R _ r0 => ?_) (fun _ z => z.elim) (fun H6 e6 => ?_))
    · refine ⟨_, rfl, ?_⟩
      refine cons_id (lit_four (T := T) (K := K) _ _ _ fun H6 pv e6 hpv => ?_)
      obtain ⟨p, ρ, rfl, hρ, pool⟩ := tea_pool hpv (by decide)
      refine ⟨tv, tea, p, ρ, "leaf", 3, rfl, (e5.trans e6).dp htv, tea_ok, tea_dep, pool, by rw [tea_names]; decide +kernel, by decide, fun H7 e7 => ?_⟩
      rw [tea_n2 hρ]
      refine ⟨rfl, _, rfl, ?_⟩
      refine ⟨_, rfl, ?_⟩
      refine cons_id (lit_four (T := T) (K := K) _ _ _ fun H8 pv e8 hpv => ?_)
      obtain ⟨p, ρ, rfl, hρ, pool⟩ := tea_pool hpv (by decide)
      refine ⟨tv, tea, p, ρ, "tag", 3, rfl, (((e5.trans e6).trans e7).trans e8).dp htv, tea_ok, tea_dep, pool, by rw [tea_names]; decide +kernel, by decide, fun H9 e9 => ?_⟩
      rw [tea_n3 hρ]
      exact ⟨rfl, _, rfl, r0 _ ((((e5.trans e6).trans e7).trans e8).trans e9)⟩
    dsimp only
    refine seq_id (ifS_cps (fun _ => False) (fun H1 => Ex T H4 H1) (fun R _ r0 => ?_) (fun _ z => z.elim) (fun H7 e7 => ?_))
    · refine ttest_id (top_id (tcall_id (cons_id (lit_kind (T := T) (K := K) _ _ _ fun H7 xv e7 hxv => ?_))))
      refine cons_id (lit_tup (T := T) (K := K) (ds := [.int 5]) (litA_cons lit_int litA_nil) (by simp) _ _ _ fun H8 pv e8 hpv => ?_)
      obtain ⟨p, rfl, hp⟩ := Dp.tup_ints (ns := [5]) hpv
      have pool : PoolAt K H8 p xF.names (fun _ => 5) := ⟨by rw [x_sort]; exact hp, fun _ _ => ⟨show (0 : Int) ≤ 5 by decide, show (5 : Int) ≤ 10 ^ 18 by decide⟩⟩
      refine ⟨10, 18, rfl, rfl, ⟨by decide, by decide, by decide⟩, _, 1, rfl, rfl, ?_⟩
      refine ⟨xv, xF, p, fun _ => 5, "x", 10 ^ 18 + 1, rfl, e8.dp hxv, x_ok, by simp [xF, depth], pool, by simp [xF, Fm.names], by decide, fun H9 e9 => ?_⟩
      rw [x_need]
      refine ⟨10, 18, rfl, rfl, ⟨by decide, by decide, by decide⟩, _, 1, rfl, rfl, ?_⟩
      exact ⟨rfl, _, rfl, r0 _ (((e6.trans e7).trans e8).trans e9)⟩
    dsimp only
    refine ⟨_, rfl, ?_⟩
    refine cons_id (lit_four (T := T) (K := K) _ _ _ fun H8 pv e8 hpv => ?_)
    refine cons_id (lit_two (T := T) (K := K) _ _ _ fun H9 lv e9 hlv => ?_)
    obtain ⟨p, ρ, rfl, hρ, pool⟩ := tea_pool hpv (by decide)
    obtain ⟨l, rfl, hl⟩ := Dp.tup_strs hlv
    have lok : ∀ L : List Str, L.Sublist [sBag, sCup, sLeaf, sTag] → LotOk L tea.names := fun L hL => lot_ok tea_sort.symm (by decide +kernel) hL
    refine ⟨tv, tea, p, l, ρ, _, rfl, ((e7.trans e8).trans e9).dp htv, tea_ok, tea_dep, pool.ex e9, hl, by decide, lok _ (by decide +kernel), fun H10 e10 => ?_⟩
    rw [tea_e1 hρ]
    refine ⟨rfl, _, rfl, ?_⟩
    refine ⟨_, rfl, ?_⟩
    refine cons_id (lit_four (T := T) (K := K) _ _ _ fun H11 pv e11 hpv => ?_)
    refine cons_id (lit_two (T := T) (K := K) _ _ _ fun H12 lv e12 hlv => ?_)
    obtain ⟨p, ρ, rfl, hρ, pool⟩ := tea_pool hpv (by decide)
    obtain ⟨l, rfl, hl⟩ := Dp.tup_strs hlv
    refine ⟨tv, tea, p, l, ρ, _, rfl, (((((e7.trans e8).trans e9).trans e10).trans e11).trans e12).dp htv, tea_ok, tea_dep, pool.ex e12, hl, by decide, lok _ (by decide +kernel), fun H13 e13 => ?_⟩
    rw [tea_e2]
    exact ⟨rfl, q H13⟩
end
end K23
set_option maxHeartbeats 2000000
/-! X4: the law's promise at the heap that the top leaves. -/
namespace K23
open PySem PySem.Spec PyProof.Rows L2 LamX
def nmOf (i : Nat) : Str := (defs.lookup i).getD ""
theorem nmOf_ok : ∀ d ∈ defs, nmOf d.1 = d.2 := by decide +kernel
theorem dfl_ok {K : PySem.W.Frag} : ∀ i : Nat, (dflD i).map (He.Dv.v K) = dvOf i := by
  intro i
  by_cases h : i = 38
  · subst h
    rfl
  · have e1 : dflD i = [] := by
      unfold dflD
      split
      · exact absurd rfl h
      · rfl
    have e2 : dvOf i = [] := by
      unfold dvOf
      split
      · exact absurd rfl h
      · rfl
    rw [e1, e2]
    rfl
def adr (K : PySem.W.Frag) (i : Nat) : Addr := He.ga K (nmOf i)
def fdAt (K : PySem.W.Frag) (i : Nat) : FuncData := match K.lookup (adr K i) with
  | some ⟨_, _, .func fd, _⟩ => fd
  | _ => default
theorem fdAt_eq {K : PySem.W.Frag} {i : Nat} {oc : Value} {od : Option Addr} {osl : Array (Option Value)} {fd : FuncData} (lk : K.lookup (adr K i) = some ⟨oc, od, .func fd, osl⟩) : fdAt K i = fd := by
  unfold fdAt
  rw [lk]
section
variable {h : Heap} {K : PySem.W.Frag} {mg : Str → Option Value} {w : World}
theorem fact_glo (X : K.In h) (G : h.Ns mainGlobals mg) (S : SaysK h K) {d : Nat × Str} (m : d ∈ defs) : mg d.2 = some (.ref (He.ga K d.2)) :=
  He.glo_ok X G (S.d.facts (List.mem_append_left _ (List.mem_append_left _ (List.mem_map_of_mem (f := fun d : Nat × Str => He.Fa.glo d.2) m))))
theorem fact_free (X : K.In h) (G : h.Ns mainGlobals mg) (S : SaysK h K) {x : Str} (m : x ∈ frees) : mg x = none :=
  He.free_ok X G (S.d.facts (List.mem_append_left _ (List.mem_append_right _ (List.mem_map_of_mem m))))
theorem fact_more (S : SaysK h K) (i : Nat) {f : He.Fa} (e : ([.str "LETTERS" "abcdefghijklmnopqrstuvwxyz", .int "LONGEST_NAME" 5, .int "MOST_POOL" (10 ^ 18), .glo "InvalidNumber", .glo "Refused", .exm "InvalidNumber" "InvalidNumber" true, .exm "Refused" "InvalidNumber" false, .exm "Refused" "Refused" true] : List He.Fa)[i]? = some f) : f.ok K = true :=
  S.d.facts (List.mem_append_right _ (List.mem_of_getElem? e))
theorem fact_def (S : SaysK h K) {d : Nat × Str} (m : d ∈ defs) : FunD K d.2 d.2 (defArgs (topS d.1)) (defBody (topS d.1)) (defScope (topS d.1)) (dvOf d.1) [] (adr K d.1) (fdAt K d.1) := by
  obtain ⟨fd, F⟩ := S.d.defs (d := dOf d) (List.mem_map_of_mem m)
  have ea : adr K d.1 = He.fAd K (dOf d).at_ := by
    unfold adr
    rw [nmOf_ok d m]
    rfl
  have F : FunD K d.2 d.2 (defArgs (topS d.1)) (defBody (topS d.1)) (defScope (topS d.1)) ((dflD d.1).map (He.Dv.v K)) [] (He.fAd K (dOf d).at_) fd := F
  rw [dfl_ok, ← ea] at F
  obtain ⟨oc, od, dV, kV, doc, pm, an, cdv, ct, osl, e, lk, _⟩ := F.ex
  rw [fdAt_eq lk]
  exact F
theorem txt_of (X : K.In h) (G : h.Ns mainGlobals mg) (S : SaysK h K) : Txt K mg (adr K) (fdAt K) where
  F := fun j d e => fact_def S (List.mem_of_getElem? e)
  g := fun j d e => by
    have m := List.mem_of_getElem? e
    unfold adr
    rw [nmOf_ok d m]
    exact fact_glo X G S m
  z := fun j x e => fact_free X G S (List.mem_of_getElem? e)
  letters := He.str_ok X G (fact_more S 0 rfl)
  longest := He.int_ok X G (fact_more S 1 rfl)
  most := He.int_ok X G (fact_more S 2 rfl)
/-- a def whose lambda's code object goes into its table -/
theorem lam_of {base : Heap} {T : Tl} {i : Nat} {x q : Str} (S : SaysK h K) (m : (i, x) ∈ defs) (tb : TabB base mg (He.cT K (x, none)).1 (He.cT K (x, none)).2) (mT : ((He.cT K (x, none)).2, q) ∈ T)
    (one : ∀ p ∈ T, p.1 = (He.cT K (x, none)).2 → p.2 = q) : LamOk mg base T (fdAt K i) q := by
  obtain ⟨oc, od, dV, kV, doc, pm, an, cdv, ct, osl, e, lk, hcd, _⟩ := (fact_def S m).ex
  obtain ⟨c, hc⟩ := He.codeIn_ref hcd
  have ec : (fdAt K i).code = .ref c := by
    rw [e]
    exact hc
  have lk2 : K.lookup (He.fAd K (x, none)) = some ⟨oc, od, .func (fdAt K i), osl⟩ := by
    have ea : adr K i = He.fAd K (x, none) := by
      unfold adr
      rw [nmOf_ok (i, x) m]
      rfl
    rw [← ea]
    exact lk
  have e1 : (He.cT K (x, none)).1 = c := He.codeOf_eq lk2 ec
  rw [e1] at tb
  exact ⟨c, _, ec, tb, mT, one⟩
/-- the tables -/
def tabsT (K : PySem.W.Frag) : Tl := [((He.cT K ("joined", none)).2, "joined.<locals>.<lambda>"), ((He.cT K ("_law_refused_right", none)).2, "_law_refused_right.<locals>.<lambda>")]
theorem end_of (X : K.In h) (G : h.Ns mainGlobals mg) (S : SaysK h K) {fa : Addr} (hf : mg "law" = some (.ref fa)) :
    EndAt (PySem.Challenge.rw_asmany_k23_whole_what_more_of_a_kind_giv).prog w K 100 63 "_law_script" mg fa h (fdAt K 62) (tfL.map (He.cT K)) (spLaw (tabsT K) K) := by
  have U := txt_of X G S
  obtain rfl : fa = adr K 62 := by
    have e := hf.symm.trans (g_law U)
    injection e with e
    injection e
  obtain ⟨x1, x2⟩ := He.ba S.ex
  obtain ⟨x2, x3⟩ := He.ba x2
  have ne : (He.cT K ("joined", none)).2 ≠ (He.cT K ("_law_refused_right", none)).2 := of_decide_eq_true x3
  have gs : mg "super" = none := z_super U
  obtain ⟨dN, eN⟩ := errC_of (P := (PySem.Challenge.rw_asmany_k23_whole_what_more_of_a_kind_giv).prog) (w := w) ini3 x1 S.iN (He.glo_ok X G (fact_more S 3 rfl)) gs (by rfl)
  obtain ⟨dR, eR⟩ := errC_of (P := (PySem.Challenge.rw_asmany_k23_whole_what_more_of_a_kind_giv).prog) (w := w) ini4 x2 S.iR (He.glo_ok X G (fact_more S 4 rfl)) gs (by rfl)
  have each : ∀ c ∈ tfL.map (He.cT K), ∃ p ∈ tfL, He.cT K p = c := fun c hc => List.mem_map.mp hc
  refine ⟨X, fun c hc => ?_, fun c hc => ?_, fun c hc => ?_, fun s v => ?_, fun H a ns hl hH hS => ?_, fun base bX bG tb => ?_⟩
  · obtain ⟨p, hp, rfl⟩ := each c hc
    exact S.empty p hp
  · obtain ⟨p, hp, rfl⟩ := each c hc
    exact S.out p hp
  · obtain ⟨p, hp, rfl⟩ := each c hc
    exact PySem.W.codeHd_of_K X (S.hd p hp)
  · exact FunD.bindsA (ps := ["_law_script"]) (F_law U) (fun _ _ _ _ _ _ us hl => match us, hl with | [_], _ => rfl) s [v] rfl
  · refine ⟨a, ns, rfl, hS, hl, ?_, fun _ => rfl⟩
    intro p hp
    rcases List.mem_cons.mp hp with rfl | hp
    · exact TabS.nil (hH _ (List.mem_map_of_mem (List.mem_cons_self)))
    · obtain rfl := List.mem_singleton.mp hp
      exact TabS.nil (hH _ (List.mem_map_of_mem (List.mem_cons_of_mem _ List.mem_cons_self)))
  · have t1 := tb _ (List.mem_map_of_mem (f := He.cT K) (show (("joined", none) : He.Defn) ∈ tfL from List.mem_cons_self))
    have t2 := tb _ (List.mem_map_of_mem (f := He.cT K) (show (("_law_refused_right", none) : He.Defn) ∈ tfL from List.mem_cons_of_mem _ List.mem_cons_self))
    have Er : Errs (PySem.Challenge.rw_asmany_k23_whole_what_more_of_a_kind_giv).prog w K mg base (He.ga K "InvalidNumber") (He.ga K "Refused") (He.ma K (He.ga K "InvalidNumber") "__init__") (He.ma K (He.ga K "Refused") "__init__") dN dR :=
      ⟨eN base, eR base, He.exm_ok (fact_more S 5 rfl), He.exm_ok (fact_more S 6 rfl), He.exm_ok (fact_more S 7 rfl)⟩
    refine ok_law U Er (T := tabsT K) (lam_of S (i := 16) (x := "joined") (by decide +kernel) t1 List.mem_cons_self ?_) (lam_of S (i := 60) (x := "_law_refused_right") (by decide +kernel) t2 (List.mem_cons_of_mem _ List.mem_cons_self) ?_)
    · intro p hp e
      rcases List.mem_cons.mp hp with rfl | hp
      · rfl
      · obtain rfl := List.mem_singleton.mp hp
        exact absurd e.symm ne
    · intro p hp e
      rcases List.mem_cons.mp hp with rfl | hp
      · exact absurd e ne
      · obtain rfl := List.mem_singleton.mp hp
        rfl
end
end K23
set_option maxHeartbeats 0
/-! X5: the row. -/
namespace K23
open PySem PySem.W PySem.Calls PyProof.Rows
theorem room100 : L2.Room 100 callerA := ⟨rfl, by decide, by decide⟩
theorem call_holds : PySem.W.WalkO qv loose (XL qv []) hkK.says (PySem.Challenge.rw_asmany_k23_whole_what_more_of_a_kind_giv).row.toRowW (HandSHeadRun.topDef R.prog 62) [] (fun f us => PySem.call f us) := by
  refine walk_g (l := PySem.Challenge.rw_asmany_k23_whole_what_more_of_a_kind_giv) (n := 63) (k := 100) (x := "_law_script") rfl (by decide) (by kernel_rfl) room100 ?_
  intro w mg fa h Y G hmg0
  obtain ⟨K, X, S⟩ := Y
  have hmg : mg ("law" : PySem.Str) = some (.ref fa) := by
    have e : (HandSHeadRun.topDef R.prog 62).name = ("law" : PySem.Str) := by kernel_rfl
    rw [← e]
    exact hmg0
  exact ⟨K, _, _, _, end_of X G S hmg⟩
end K23
open PySem PySem.W PySem.Calls PyProof.Rows
theorem PySem.Challenge.cw_asmany_k23_whole_what_more_of_a_kind_giv_holds : PySem.Challenge.rw_asmany_k23_whole_what_more_of_a_kind_giv.Holds := by
  w_on; o_law
  refine HandSHeadRun.head_any (r := OpenLaw.row PySem.Challenge.rw_asmany_k23_whole_what_more_of_a_kind_giv) (q := K23.qv) (H := K23.hkK) (ob := K23.obK) (M := 9000) (loose := K23.loose) (d := HandSHeadRun.topDef K23.R.prog 62) (kwd := []) K23.obK_eq
    (by kernel_rfl) (fun s => by kernel_rfl) K23.run (by kernel_rfl) (by kernel_rfl) (by kernel_rfl) (by rfl) (by first | assumption | decide +kernel) (by decide +kernel) ⟨rfl, rfl, rfl, rfl, rfl, by decide +kernel⟩ ?hw ?hc
  case hw => w_witness2
  case hc => exact K23.call_holds

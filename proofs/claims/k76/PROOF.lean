import PyProof.Rows.All
import Wide.All
import OpenK.AllK
import Wide.FinOn
import KE.KStateDown
import KE.KRevSl
import KE.KSortRegAny
import KE.KDictCopyH
import KE.GoesEnum
import HandS.ForMost
import HandS.Exc
import HandS.WordsExc
import HandS.Defaults
import HandS.Codes
import HandS.Conv
import HandS.DictComp
import HandS.IsInst
import HandS.SetKeys
import HandS.Strs
import HandS.Style
import HandS.TupAny
import HandS.RaiseMore
import KE.KDictPairs
import KE.GoesMore
import HandS.Walk
import HandS.HeadHook4
import HandS.TupSets
import HandS.SetBool
import HandS.TryOnly
import HandS.Head0
import HandS.Head1
import HandS.Head2
import HandS.HeadEnd
import HandS.HeadHook1
import HandS.HeadHook2
import HandS.HeadHook3
import PySem.Challenge.RW_twigscripts_k76_whole_fewest_moves
/-! text M1 -/
/-! M1: woods as a binary datum, their rows of ends, the machine that reads a row -/
set_option linter.all false
set_option autoImplicit false
namespace K76
section
variable {α : Type} [DecidableEq α]

inductive Wd (α : Type) where
  | nil
  | cons (n : α) (i r : Wd α)

inductive En (α : Type) where
  | op (n : α)
  | cl (n : α)
  deriving DecidableEq

namespace Wd
def row : Wd α → List (En α)
  | nil => []
  | cons n i r => En.op n :: (row i ++ En.cl n :: row r)
def nms : Wd α → List α
  | nil => []
  | cons n i r => n :: (nms i ++ nms r)
def roots : Wd α → List α
  | nil => []
  | cons n _ r => n :: roots r
def dep : Wd α → Nat
  | nil => 0
  | cons _ i r => max (dep i + 1) (dep r)
/-- (name, parent) in the order of the first ends -/
def prs : Option α → Wd α → List (α × Option α)
  | _, nil => []
  | p, cons n i r => (n, p) :: (prs (some n) i ++ prs p r)
def app : Wd α → Wd α → Wd α
  | nil, v => v
  | cons n i r, v => cons n i (app r v)
end Wd
open Wd

theorem prs_nms (w : Wd α) : ∀ p, (prs p w).map (·.1) = nms w := by
  induction w with
  | nil => intro p; rfl
  | cons n i r hi hr => intro p; simp [prs, nms, hi, hr]
theorem prs_len (w : Wd α) (p : Option α) : (prs p w).length = (nms w).length := by
  rw [← prs_nms w p, List.length_map]
theorem row_len (w : Wd α) : (row w).length = 2 * (nms w).length := by
  induction w with
  | nil => rfl
  | cons n i r hi hr => simp [row, nms, hi, hr]; omega
theorem dep_le (w : Wd α) : dep w ≤ (nms w).length := by
  induction w with
  | nil => exact Nat.le_refl 0
  | cons n i r hi hr => simp [dep, nms]; omega
theorem roots_len (w : Wd α) : (roots w).length ≤ (nms w).length := by
  induction w with
  | nil => exact Nat.le_refl 0
  | cons n i r hi hr => simp [roots, nms]; omega
theorem row_app (v w : Wd α) : row (app v w) = row v ++ row w := by
  induction v with
  | nil => rfl
  | cons n i r hi hr => simp [app, row, hr]
theorem nms_app (v w : Wd α) : nms (app v w) = nms v ++ nms w := by
  induction v with
  | nil => rfl
  | cons n i r hi hr => simp [app, nms, hr]
theorem app_nil (v : Wd α) : app v nil = v := by
  induction v with
  | nil => rfl
  | cons n i r hi hr => simp [app, hr]
theorem app_assoc (u v w : Wd α) : app (app u v) w = app u (app v w) := by
  induction u with
  | nil => rfl
  | cons n i r hi hr => simp [app, hr]
theorem roots_app (v w : Wd α) : roots (app v w) = roots v ++ roots w := by
  induction v with
  | nil => rfl
  | cons n i r hi hr => simp [app, roots, hr]
theorem op_mem_row (w : Wd α) (x : α) : En.op x ∈ row w ↔ x ∈ nms w := by
  induction w with
  | nil => simp [row, nms]
  | cons n i r hi hr => simp [row, nms, hi, hr]
theorem cl_mem_row (w : Wd α) (x : α) : En.cl x ∈ row w ↔ x ∈ nms w := by
  induction w with
  | nil => simp [row, nms]
  | cons n i r hi hr => simp [row, nms, hi, hr]; constructor <;> (intro h; rcases h with h | h | h <;> simp [h])
theorem roots_sub (w : Wd α) : ∀ x ∈ roots w, x ∈ nms w := by
  induction w with
  | nil => intro x h; exact h
  | cons n i r hi hr =>
    intro x h
    rcases List.mem_cons.mp h with h | h
    · simp [nms, h]
    · simp [nms, hr x h]

/-! ### the machine that reads a row: the open nodes, the latest first -/
def run : List α → List (En α) → Option (List α)
  | s, [] => some s
  | s, En.op n :: l => run (n :: s) l
  | [], En.cl _ :: _ => none
  | m :: s, En.cl n :: l => if m = n then run s l else none
/-- (name, the node it is opened in) -/
def rprs : List α → List (En α) → List (α × Option α)
  | _, [] => []
  | s, En.op n :: l => (n, s.head?) :: rprs (n :: s) l
  | s, En.cl _ :: l => rprs s.tail l
theorem run_append : ∀ (l1 l2 : List (En α)) (s : List α), run s (l1 ++ l2) = (run s l1).bind fun t => run t l2
  | [], l2, s => rfl
  | En.op n :: l, l2, s => by
    show run (n :: s) (l ++ l2) = _
    rw [run_append l l2]
    rfl
  | En.cl n :: l, l2, [] => rfl
  | En.cl n :: l, l2, m :: s => by
    show (if m = n then run s (l ++ l2) else none) = _
    show _ = (if m = n then run s l else none).bind _
    by_cases h : m = n
    · rw [if_pos h, if_pos h, run_append l l2]
    · rw [if_neg h, if_neg h]; rfl
theorem rprs_append : ∀ (l1 l2 : List (En α)) (s t : List α), run s l1 = some t → rprs s (l1 ++ l2) = rprs s l1 ++ rprs t l2
  | [], l2, s, t, h => by
    cases h
    rfl
  | En.op n :: l, l2, s, t, h => by
    show (n, s.head?) :: rprs (n :: s) (l ++ l2) = _
    rw [rprs_append l l2 (n :: s) t h]
    rfl
  | En.cl n :: l, l2, [], t, h => by cases h
  | En.cl n :: l, l2, m :: s, t, h => by
    have h' : (if m = n then run s l else none) = some t := h
    by_cases e : m = n
    · rw [if_pos e] at h'
      exact rprs_append l l2 s t h'
    · rw [if_neg e] at h'; cases h'
theorem run_row (w : Wd α) : ∀ (s : List α), run s (row w) = some s := by
  induction w with
  | nil => intro s; rfl
  | cons n i r hi hr =>
    intro s
    show run (n :: s) (row i ++ En.cl n :: row r) = some s
    rw [run_append, hi]
    show (if n = n then run s (row r) else none) = some s
    rw [if_pos rfl, hr]
theorem rprs_row (w : Wd α) : ∀ (s : List α), rprs s (row w) = prs s.head? w := by
  induction w with
  | nil => intro s; rfl
  | cons n i r hi hr =>
    intro s
    show (n, s.head?) :: rprs (n :: s) (row i ++ En.cl n :: row r) = _
    rw [rprs_append _ _ _ _ (run_row i (n :: s)), hi]
    show (n, s.head?) :: (prs (some n) i ++ rprs s (row r)) = _
    rw [hr]
    rfl
/-- a row that the machine reads from the empty stack to the empty stack is a wood's -/
theorem parse_aux : ∀ (k : Nat) (l : List (En α)) (s : List α), l.length ≤ k → run s l = some [] →
    ∃ (w : Wd α) (l' : List (En α)), l = row w ++ l' ∧ (match s with
      | [] => l' = []
      | n :: s' => ∃ l2, l' = En.cl n :: l2 ∧ run s' l2 = some [])
  | k, [], s, hk, h => by
    have e : s = [] := by
      have h' : some s = some [] := h
      exact Option.some.inj h'
    subst e
    exact ⟨nil, [], rfl, rfl⟩
  | 0, _ :: _, s, hk, h => by simp at hk
  | k + 1, En.op n :: l, s, hk, h => by
    have h1 : run (n :: s) l = some [] := h
    have hk1 : l.length ≤ k := by simpa using hk
    obtain ⟨w1, l1, e1, l2, e2, h2⟩ := parse_aux k l (n :: s) hk1 h1
    have hk2 : l2.length ≤ k := by
      have z := congrArg List.length e1
      rw [e2, List.length_append, List.length_cons] at z
      omega
    obtain ⟨w2, l3, e3, h3⟩ := parse_aux k l2 s hk2 h2
    refine ⟨cons n w1 w2, l3, ?_, h3⟩
    show En.op n :: l = En.op n :: (row w1 ++ En.cl n :: row w2) ++ l3
    rw [e1, e2, e3]
    simp
  | k + 1, En.cl n :: l, [], hk, h => by cases h
  | k + 1, En.cl n :: l, m :: s, hk, h => by
    have h' : (if m = n then run s l else none) = some [] := h
    by_cases e : m = n
    · rw [if_pos e] at h'
      subst e
      exact ⟨nil, En.cl m :: l, rfl, l, rfl, h'⟩
    · rw [if_neg e] at h'; cases h'
theorem parse {l : List (En α)} (h : run [] l = some []) : ∃ w : Wd α, row w = l := by
  obtain ⟨w, l', e, e2⟩ := parse_aux l.length l [] (Nat.le_refl _) h
  have e3 : l' = [] := e2
  subst e3
  exact ⟨w, by rw [e, List.append_nil]⟩
/-- two woods with one row are one -/
theorem row_inj_aux : ∀ (v w : Wd α) (l m : List (En α)), row v ++ l = row w ++ m → (∀ x t, l ≠ En.op x :: t) → (∀ x t, m ≠ En.op x :: t) → v = w ∧ l = m := by
  intro v
  induction v with
  | nil =>
    intro w l m h hl hm
    cases w with
    | nil => exact ⟨rfl, h⟩
    | cons n i r => exact absurd h (hl n _)
  | cons n i r hi hr =>
    intro w l m h hl hm
    cases w with
    | nil => exact absurd h.symm (hm n _)
    | cons n' i' r' =>
      have h' : En.op n :: (row i ++ En.cl n :: row r) ++ l = En.op n' :: (row i' ++ En.cl n' :: row r') ++ m := h
      simp only [List.cons_append, List.append_assoc, List.cons.injEq, En.op.injEq] at h'
      obtain ⟨e1, e2⟩ := h'
      subst e1
      obtain ⟨e3, e4⟩ := hi i' _ _ e2 (fun x t z => by simp at z) (fun x t z => by simp at z)
      simp only [List.cons.injEq, true_and] at e4
      obtain ⟨e5, e6⟩ := hr r' _ _ e4 hl hm
      subst e3 e5
      exact ⟨rfl, e6⟩
theorem row_inj {v w : Wd α} (h : row v = row w) : v = w :=
  (row_inj_aux v w [] [] (by rw [List.append_nil, List.append_nil]; exact h) (fun _ _ z => by cases z) (fun _ _ z => by cases z)).1
end
end K76
/-! text M2 -/
/-! M2: moves on rows; the step of fewest -/
set_option linter.all false
set_option autoImplicit false
namespace K76
open Wd
section
variable {α : Type} [DecidableEq α]

def ops (l : List (En α)) : List α := l.filterMap fun e => match e with
  | En.op n => some n
  | En.cl _ => none
theorem ops_append (l m : List (En α)) : ops (l ++ m) = ops l ++ ops m := List.filterMap_append
theorem ops_op (n : α) (l : List (En α)) : ops (En.op n :: l) = n :: ops l := rfl
theorem ops_cl (n : α) (l : List (En α)) : ops (En.cl n :: l) = ops l := rfl
theorem ops_row (w : Wd α) : ops (row w) = nms w := by
  induction w with
  | nil => rfl
  | cons n i r hi hr => rw [row, ops_op, ops_append, ops_cl, hi, hr]; rfl
theorem mem_ops {l : List (En α)} {x : α} : x ∈ ops l ↔ En.op x ∈ l := by
  induction l with
  | nil => simp [ops]
  | cons e l ih =>
    cases e with
    | op n => rw [ops_op]; simp [ih]
    | cl n => rw [ops_cl]; simp [ih]
theorem run_stack : ∀ (l : List (En α)) (s t : List α), run s l = some t → ∀ x ∈ t, x ∈ s ∨ x ∈ ops l
  | [], s, t, h, x, hx => by
    cases h
    exact .inl hx
  | En.op n :: l, s, t, h, x, hx => by
    rcases run_stack l (n :: s) t h x hx with z | z
    · rcases List.mem_cons.mp z with z | z
      · exact .inr (by rw [ops_op, z]; exact List.mem_cons_self)
      · exact .inl z
    · exact .inr (by rw [ops_op]; exact List.mem_cons_of_mem _ z)
  | En.cl n :: l, [], t, h, x, hx => by cases h
  | En.cl n :: l, m :: s, t, h, x, hx => by
    have h' : (if m = n then run s l else none) = some t := h
    by_cases e : m = n
    · rw [if_pos e] at h'
      rcases run_stack l s t h' x hx with z | z
      · exact .inl (List.mem_cons_of_mem _ z)
      · exact .inr z
    · rw [if_neg e] at h'; cases h'
theorem run_cl : ∀ (l : List (En α)) (s t : List α), run s l = some t → ∀ x, En.cl x ∈ l → x ∈ s ∨ x ∈ ops l
  | [], s, t, h, x, hx => by cases hx
  | En.op n :: l, s, t, h, x, hx => by
    rcases List.mem_cons.mp hx with z | hx
    · cases z
    · rcases run_cl l (n :: s) t h x hx with z | z
      · rcases List.mem_cons.mp z with z | z
        · exact .inr (by rw [ops_op, z]; exact List.mem_cons_self)
        · exact .inl z
      · exact .inr (by rw [ops_op]; exact List.mem_cons_of_mem _ z)
  | En.cl n :: l, [], t, h, x, hx => by cases h
  | En.cl n :: l, m :: s, t, h, x, hx => by
    have h' : (if m = n then run s l else none) = some t := h
    by_cases e : m = n
    · rw [if_pos e] at h'
      rcases List.mem_cons.mp hx with z | hx
      · injection z with z
        exact .inl (by rw [z, e]; exact List.mem_cons_self)
      · rcases run_cl l s t h' x hx with z | z
        · exact .inl (List.mem_cons_of_mem _ z)
        · exact .inr z
    · rw [if_neg e] at h'; cases h'
theorem rprs_par : ∀ (l : List (En α)) (s : List α) (x p : α), (x, some p) ∈ rprs s l → p ∈ s ∨ p ∈ ops l
  | [], s, x, p, h => by cases h
  | En.op n :: l, s, x, p, h => by
    rcases List.mem_cons.mp h with z | z
    · injection z with z1 z2
      cases s with
      | nil => cases z2
      | cons a s =>
        injection z2 with z2
        exact .inl (by rw [z2]; exact List.mem_cons_self)
    · rcases rprs_par l (n :: s) x p z with z | z
      · rcases List.mem_cons.mp z with z | z
        · exact .inr (by rw [ops_op, z]; exact List.mem_cons_self)
        · exact .inl z
      · exact .inr (by rw [ops_op]; exact List.mem_cons_of_mem _ z)
  | En.cl n :: l, s, x, p, h => by
    rcases rprs_par l s.tail x p h with z | z
    · exact .inl (List.mem_of_mem_tail z)
    · exact .inr z
theorem rprs_nms : ∀ (l : List (En α)) (s : List α), (rprs s l).map (·.1) = ops l
  | [], _ => rfl
  | En.op n :: l, s => by
    show n :: (rprs (n :: s) l).map (·.1) = n :: ops l
    rw [rprs_nms l]
  | En.cl n :: l, s => rprs_nms l s.tail
theorem prs_par (w : Wd α) : ∀ (q : Option α) (x : α) (p : Option α), (x, p) ∈ prs q w → p = q ∨ ∃ y ∈ nms w, p = some y := by
  induction w with
  | nil => intro q x p h; cases h
  | cons n i r hi hr =>
    intro q x p h
    rcases List.mem_cons.mp h with z | z
    · injection z with z1 z2
      exact .inl z2
    · rcases List.mem_append.mp z with z | z
      · rcases hi _ _ _ z with e | ⟨y, hy, e⟩
        · exact .inr ⟨n, List.mem_cons_self, e⟩
        · exact .inr ⟨y, List.mem_cons_of_mem _ (List.mem_append_left _ hy), e⟩
      · rcases hr _ _ _ z with e | ⟨y, hy, e⟩
        · exact .inl e
        · exact .inr ⟨y, List.mem_cons_of_mem _ (List.mem_append_right _ hy), e⟩

/-- where a node stands in a row -/
theorem split_row (w : Wd α) (a : α) (h : a ∈ nms w) : ∃ (A : List (En α)) (I : Wd α) (B : List (En α)), row w = A ++ En.op a :: (row I ++ En.cl a :: B) := by
  induction w with
  | nil => cases h
  | cons n i r hi hr =>
    rcases List.mem_cons.mp h with e | h
    · subst e
      exact ⟨[], i, row r, rfl⟩
    · rcases List.mem_append.mp h with h | h
      · obtain ⟨A, I, B, e⟩ := hi h
        exact ⟨En.op n :: A, I, B ++ En.cl n :: row r, by rw [row, e]; simp⟩
      · obtain ⟨A, I, B, e⟩ := hr h
        exact ⟨En.op n :: (row i ++ En.cl n :: A), I, B, by rw [row, e]; simp⟩

/-! ### moves -/
inductive Wrd where
  | first | last | ahead | behind | front | back
  deriving DecidableEq
structure Mv (α : Type) where
  w : Wrd
  a : α
  b : α
def needB : Wrd → Bool
  | .front => false
  | .back => false
  | _ => true
def wEnd (w : Wrd) (b : α) : En α := match w with
  | .last => En.cl b
  | .behind => En.cl b
  | _ => En.op b
def wAft : Wrd → Nat
  | .first => 1
  | .behind => 1
  | _ => 0
def blkOf (l : List (En α)) (a : α) : List (En α) := (l.take (l.idxOf (En.cl a) + 1)).drop (l.idxOf (En.op a))
def restOf (l : List (En α)) (a : α) : List (En α) := l.take (l.idxOf (En.op a)) ++ l.drop (l.idxOf (En.cl a) + 1)
def place (r : List (En α)) (d : Mv α) : Option Nat := match d.w with
  | .front => some 0
  | .back => some r.length
  | w => if wEnd w d.b ∈ r then some (r.idxOf (wEnd w d.b) + wAft w) else none
def mvd (l : List (En α)) (d : Mv α) : Option (List (En α)) :=
  if En.op d.a ∈ l then (place (restOf l d.a) d).map fun t => (restOf l d.a).take t ++ blkOf l d.a ++ (restOf l d.a).drop t else none

theorem idx_skip {β : Type} [DecidableEq β] {x : β} {A B : List β} (h : x ∉ A) : (A ++ x :: B).idxOf x = A.length := by
  rw [List.idxOf_append, if_neg h, List.idxOf_cons_self]
  omega
/-- what stands in the row of a wood of unlike names about a node -/
structure At (w : Wd α) (a : α) (A : List (En α)) (I : Wd α) (B : List (En α)) (s : List α) : Prop where
  eq : row w = A ++ En.op a :: (row I ++ En.cl a :: B)
  rn : run [] A = some s
  rb : run s B = some []
  nop : a ∉ ops A
  nI : a ∉ nms I
  nB : a ∉ ops B
  ncl : En.cl a ∉ A
  sub : ∀ x ∈ s, x ∈ ops A
  dAI : ∀ x ∈ ops A, x ∉ nms I
  dBI : ∀ x ∈ ops B, x ∉ nms I
  nd : (ops A ++ a :: (nms I ++ ops B)).Nodup
theorem at_of {w : Wd α} (hn : (nms w).Nodup) {a : α} (h : a ∈ nms w) : ∃ A I B s, At w a A I B s := by
  obtain ⟨A, I, B, e⟩ := split_row w a h
  have r := run_row w []
  rw [e, run_append] at r
  cases hA : run [] A with
  | none => rw [hA] at r; cases r
  | some s =>
    rw [hA] at r
    have r2 : run (a :: s) (row I ++ En.cl a :: B) = some [] := r
    rw [run_append, run_row] at r2
    have r3 : (if a = a then run s B else none) = some [] := r2
    rw [if_pos rfl] at r3
    have n := hn
    rw [← ops_row, e, ops_append, ops_op, ops_append, ops_row, ops_cl] at n
    have n2 := List.nodup_append.mp n
    have n3 := List.nodup_cons.mp n2.2.1
    have n4 := List.nodup_append.mp n3.2
    have hsub : ∀ x ∈ s, x ∈ ops A := fun x hx => (run_stack A [] s hA x hx).resolve_left (by simp)
    have nA : a ∉ ops A := fun z => n2.2.2 a z a List.mem_cons_self rfl
    exact ⟨A, I, B, s, e, hA, r3, nA, fun z => n3.1 (List.mem_append_left _ z), fun z => n3.1 (List.mem_append_right _ z),
      fun z => nA ((run_cl A [] s hA a z).resolve_left (by simp)), hsub, fun x hx hy => n2.2.2 x hx x (List.mem_cons_of_mem _ (List.mem_append_left _ hy)) rfl,
      fun x hx hy => n4.2.2 x hy x hx rfl, n⟩
section
variable {w I : Wd α} {a : α} {A B : List (En α)} {s : List α}
theorem At.opn (h : At w a A I B s) : En.op a ∉ A := fun z => h.nop (mem_ops.mpr z)
theorem At.i (h : At w a A I B s) : (row w).idxOf (En.op a) = A.length := by
  rw [h.eq]; exact idx_skip h.opn
theorem At.j (h : At w a A I B s) : (row w).idxOf (En.cl a) = A.length + 1 + (row I).length := by
  have e : row w = (A ++ En.op a :: row I) ++ En.cl a :: B := by rw [h.eq]; simp
  rw [e, idx_skip]
  · simp; omega
  · intro z
    rcases List.mem_append.mp z with z | z
    · exact h.ncl z
    · rcases List.mem_cons.mp z with z | z
      · cases z
      · exact h.nI ((cl_mem_row I a).mp z)
theorem At.blk (h : At w a A I B s) : blkOf (row w) a = En.op a :: (row I ++ [En.cl a]) := by
  unfold blkOf
  rw [h.i, h.j]
  have e : row w = (A ++ En.op a :: (row I ++ [En.cl a])) ++ B := by rw [h.eq]; simp
  have l : A.length + 1 + (row I).length + 1 = (A ++ En.op a :: (row I ++ [En.cl a])).length := by simp; omega
  rw [e, l, List.take_left, List.drop_left]
theorem At.rest (h : At w a A I B s) : restOf (row w) a = A ++ B := by
  unfold restOf
  rw [h.i, h.j]
  have e : row w = (A ++ En.op a :: (row I ++ [En.cl a])) ++ B := by rw [h.eq]; simp
  have l : A.length + 1 + (row I).length + 1 = (A ++ En.op a :: (row I ++ [En.cl a])).length := by simp; omega
  have e1 : (row w).take A.length = A := by rw [h.eq, List.take_left]
  rw [e1, e, l, List.drop_left]
theorem At.prsq (h : At w a A I B s) : Wd.prs none w = rprs [] A ++ (a, s.head?) :: (prs (some a) I ++ rprs s B) := by
  have e := rprs_row w []
  rw [h.eq, rprs_append _ _ _ _ h.rn] at e
  have e2 : rprs s (En.op a :: (row I ++ En.cl a :: B)) = (a, s.head?) :: (Wd.prs (some a) I ++ rprs s B) := by
    show (a, s.head?) :: rprs (a :: s) (row I ++ En.cl a :: B) = _
    rw [rprs_append _ _ _ _ (run_row I (a :: s)), rprs_row]
    rfl
  rw [e2] at e
  exact e.symm
theorem At.runv (h : At w a A I B s) : run [] (A ++ B) = some [] := by
  rw [run_append, h.rn]; exact h.rb
/-- the block put in anywhere -/
theorem At.put (h : At w a A I B s) {A' B' : List (En α)} (e : A ++ B = A' ++ B') : ∃ (w' : Wd α) (s' : List α), run [] A' = some s' ∧ row w' = A' ++ (En.op a :: (row I ++ [En.cl a])) ++ B' ∧
    Wd.prs none w' = rprs [] A' ++ (a, s'.head?) :: (Wd.prs (some a) I ++ rprs s' B') ∧ rprs [] A ++ rprs s B = rprs [] A' ++ rprs s' B' ∧ (nms w').Perm (nms w) := by
  have r := h.runv
  have q : rprs [] (A ++ B) = rprs [] A ++ rprs s B := rprs_append _ _ _ _ h.rn
  rw [e] at r q
  rw [run_append] at r
  cases hA : run [] A' with
  | none => rw [hA] at r; cases r
  | some s' =>
    rw [hA] at r
    have r2 : run s' B' = some [] := r
    have rb : run s' (En.op a :: (row I ++ [En.cl a])) = some s' := by
      show run (a :: s') (row I ++ [En.cl a]) = some s'
      rw [run_append, run_row]
      show (if a = a then run s' [] else none) = some s'
      rw [if_pos rfl]; rfl
    have rr : run [] (A' ++ (En.op a :: (row I ++ [En.cl a])) ++ B') = some [] := by
      rw [run_append, run_append, hA]
      show ((run s' _).bind _) = _
      rw [rb]; exact r2
    obtain ⟨w', ew⟩ := parse rr
    have pw : Wd.prs none w' = rprs [] A' ++ (a, s'.head?) :: (Wd.prs (some a) I ++ rprs s' B') := by
      have z := rprs_row w' []
      rw [ew, List.append_assoc, rprs_append _ _ _ _ hA, rprs_append _ _ _ _ rb] at z
      have e2 : rprs s' (En.op a :: (row I ++ [En.cl a])) = (a, s'.head?) :: Wd.prs (some a) I := by
        show (a, s'.head?) :: rprs (a :: s') (row I ++ [En.cl a]) = _
        rw [rprs_append _ _ _ _ (run_row I (a :: s')), rprs_row]
        show (a, s'.head?) :: (Wd.prs (some a) I ++ []) = _
        rw [List.append_nil]
      rw [e2] at z
      exact z.symm
    refine ⟨w', s', rfl, ew, pw, ?_, ?_⟩
    · rw [← q, rprs_append _ _ _ _ hA]
    · have n1 : nms w' = ops A' ++ (a :: nms I) ++ ops B' := by
        rw [← ops_row, ew, ops_append, ops_append, ops_op, ops_append, ops_row]
        simp [ops]
      have n2 : nms w = ops A ++ a :: (nms I ++ ops B) := by
        rw [← ops_row, h.eq, ops_append, ops_op, ops_append, ops_row, ops_cl]
      have n3 : ops A' ++ ops B' = ops A ++ ops B := by rw [← ops_append, ← ops_append, e]
      rw [n1, n2]
      have p1 : (ops A' ++ (a :: nms I) ++ ops B').Perm ((a :: nms I) ++ (ops A' ++ ops B')) := by
        rw [List.append_assoc]
        exact List.perm_append_comm_assoc ..
      have p2 : (ops A ++ a :: (nms I ++ ops B)).Perm ((a :: nms I) ++ (ops A ++ ops B)) := by
        have : ops A ++ a :: (nms I ++ ops B) = ops A ++ ((a :: nms I) ++ ops B) := by simp
        rw [this]
        exact List.perm_append_comm_assoc ..
      rw [n3] at p1
      exact p1.trans p2.symm
end
/-- a move that does leads from a wood to a wood of the same names -/
theorem mvd_wood {w : Wd α} (hn : (nms w).Nodup) {d : Mv α} {l : List (En α)} (h : mvd (row w) d = some l) : ∃ w' : Wd α, row w' = l ∧ (nms w').Perm (nms w) := by
  unfold mvd at h
  by_cases ha : En.op d.a ∈ row w
  · rw [if_pos ha] at h
    obtain ⟨A, I, B, s, hat⟩ := at_of hn ((op_mem_row w d.a).mp ha)
    obtain ⟨t, _, ht⟩ := Option.map_eq_some_iff.mp h
    rw [hat.rest, hat.blk] at ht
    obtain ⟨w', s', _, e2, _, _, p⟩ := hat.put (A' := (A ++ B).take t) (B' := (A ++ B).drop t) (List.take_append_drop t (A ++ B)).symm
    exact ⟨w', by rw [e2, ht], p⟩
  · rw [if_neg ha] at h; cases h

/-! ### how the program looks at a move, how the law does -/
/-- the program's word: none where it does -/
def stops (l : List (En α)) (d : Mv α) : Bool :=
  !(decide (En.op d.a ∈ l)) || (needB d.w && (!(decide (En.op d.b ∈ l)) || decide (En.op d.b ∈ blkOf l d.a)))
theorem stops_iff {w : Wd α} (hn : (nms w).Nodup) (d : Mv α) : stops (row w) d = true ↔ mvd (row w) d = none := by
  unfold stops mvd
  by_cases ha : En.op d.a ∈ row w
  · rw [if_pos ha]
    obtain ⟨A, I, B, s, hat⟩ := at_of hn ((op_mem_row w d.a).mp ha)
    simp only [ha, decide_true, Bool.not_true, Bool.false_or, Option.map_eq_none_iff]
    have key : ∀ x : α, (En.op x ∈ row w ∧ En.op x ∉ blkOf (row w) d.a) ↔ En.op x ∈ restOf (row w) d.a := by
      intro x
      rw [hat.rest, hat.blk, hat.eq]
      constructor
      · rintro ⟨h1, h2⟩
        simp only [List.mem_append, List.mem_cons, List.not_mem_nil, or_false] at h1 h2 ⊢
        rcases h1 with h | h | h | h | h
        · exact .inl h
        · exact absurd (.inl h) h2
        · exact absurd (.inr (.inl h)) h2
        · cases h
        · exact .inr h
      · intro h
        refine ⟨?_, fun z => ?_⟩
        · rcases List.mem_append.mp h with h | h
          · simp [h]
          · simp [h]
        · have hx : x = d.a ∨ x ∈ nms I := by
            simp only [List.mem_append, List.mem_cons, List.not_mem_nil, or_false] at z
            rcases z with z | z | z
            · injection z with z; exact .inl z
            · exact .inr ((op_mem_row I x).mp z)
            · cases z
          rcases List.mem_append.mp h with h | h
          · rcases hx with e | hx
            · rw [e] at h; exact hat.opn h
            · exact hat.dAI x (mem_ops.mpr h) hx
          · rcases hx with e | hx
            · rw [e] at h; exact hat.nB (mem_ops.mpr h)
            · exact hat.dBI x (mem_ops.mpr h) hx
    have both : ∀ x : α, En.cl x ∈ restOf (row w) d.a ↔ En.op x ∈ restOf (row w) d.a := by
      intro x
      obtain ⟨v, hv⟩ := parse hat.runv
      rw [hat.rest, ← hv, op_mem_row, cl_mem_row]
    have fin : ∀ e : En α, (e ∈ restOf (row w) d.a ↔ En.op d.b ∈ restOf (row w) d.a) → ∀ t : Nat,
        ((!(decide (En.op d.b ∈ row w)) || decide (En.op d.b ∈ blkOf (row w) d.a)) = true ↔ (if e ∈ restOf (row w) d.a then some t else none) = none) := by
      intro e he t
      by_cases hr : En.op d.b ∈ restOf (row w) d.a
      · obtain ⟨k1, k2⟩ := (key d.b).mpr hr
        rw [if_pos (he.mpr hr)]
        simp [k1, k2]
      · rw [if_neg (fun z => hr (he.mp z))]
        have k : ¬ (En.op d.b ∈ row w ∧ En.op d.b ∉ blkOf (row w) d.a) := fun z => hr ((key d.b).mp z)
        simp only [Bool.or_eq_true, Bool.not_eq_true', decide_eq_false_iff_not, decide_eq_true_eq, iff_true]
        by_cases h1 : En.op d.b ∈ row w
        · exact .inr (Decidable.not_not.mp fun z => k ⟨h1, z⟩)
        · exact .inl h1
    unfold place
    cases hw : d.w with
    | front => simp [needB]
    | back => simp [needB]
    | first =>
      rw [show needB Wrd.first = true from rfl, Bool.true_and]
      exact fin (En.op d.b) Iff.rfl _
    | ahead =>
      rw [show needB Wrd.ahead = true from rfl, Bool.true_and]
      exact fin (En.op d.b) Iff.rfl _
    | last =>
      rw [show needB Wrd.last = true from rfl, Bool.true_and]
      exact fin (En.cl d.b) (both d.b) _
    | behind =>
      rw [show needB Wrd.behind = true from rfl, Bool.true_and]
      exact fin (En.cl d.b) (both d.b) _
  · simp [ha]
end
end K76
/-! text M3 -/
/-! M3: children lists tell a wood; the moves of fewest lead -/
set_option linter.all false
set_option autoImplicit false
namespace K76
open Wd
section
variable {α : Type} [DecidableEq α]

def kidsL (P : List (α × Option α)) (q : Option α) : List α := (P.filter fun x => decide (x.2 = q)).map (·.1)
theorem kidsL_nil (q : Option α) : kidsL ([] : List (α × Option α)) q = [] := rfl
theorem kidsL_append (P Q : List (α × Option α)) (q : Option α) : kidsL (P ++ Q) q = kidsL P q ++ kidsL Q q := by
  unfold kidsL; rw [List.filter_append, List.map_append]
theorem kidsL_cons (x : α) (p : Option α) (P : List (α × Option α)) (q : Option α) : kidsL ((x, p) :: P) q = (if p = q then [x] else []) ++ kidsL P q := by
  unfold kidsL
  rw [List.filter_cons]
  by_cases h : p = q
  · simp [h]
  · simp [h]
theorem mem_kidsL {P : List (α × Option α)} {q : Option α} {x : α} : x ∈ kidsL P q ↔ (x, q) ∈ P := by
  unfold kidsL
  simp only [List.mem_map, List.mem_filter, decide_eq_true_eq]
  constructor
  · rintro ⟨⟨y, p⟩, ⟨h1, h2⟩, h3⟩
    have h2' : p = q := h2
    have h3' : y = x := h3
    rw [← h2', ← h3']; exact h1
  · intro h
    exact ⟨(x, q), ⟨h, rfl⟩, rfl⟩
theorem kidsL_sub (P : List (α × Option α)) (q : Option α) : (kidsL P q).Sublist (P.map (·.1)) := List.Sublist.map _ List.filter_sublist
theorem kidsL_fst {P : List (α × Option α)} {q : Option α} {x : α} (h : x ∈ kidsL P q) : x ∈ P.map (·.1) := (kidsL_sub P q).subset h

/-! ### a wood by its children lists -/
def Agree (K : α → List α) : Wd α → Prop
  | nil => True
  | cons n i r => K n = roots i ∧ Agree K i ∧ Agree K r
theorem agree_one {K : α → List α} : ∀ (v w : Wd α), Agree K v → Agree K w → roots v = roots w → v = w := by
  intro v
  induction v with
  | nil =>
    intro w _ _ h
    cases w with
    | nil => rfl
    | cons n i r => cases h
  | cons n i r hi hr =>
    intro w hv hw h
    cases w with
    | nil => cases h
    | cons n' i' r' =>
      have h' : n :: roots r = n' :: roots r' := h
      injection h' with e1 e2
      subst e1
      obtain ⟨a1, a2, a3⟩ := hv
      obtain ⟨b1, b2, b3⟩ := hw
      rw [hi i' a2 b2 (a1.symm.trans b1), hr r' a3 b3 e2]
theorem kids_none (w : Wd α) : ∀ (q : Option α) (n : Option α), q ≠ n → (∀ y ∈ nms w, n ≠ some y) → kidsL (prs q w) n = [] := by
  induction w with
  | nil => intro q n _ _; rfl
  | cons m i r hi hr =>
    intro q n h1 h2
    show kidsL ((m, q) :: (prs (some m) i ++ prs q r)) n = []
    rw [kidsL_cons, if_neg h1, kidsL_append, hi _ _ (fun z => h2 m List.mem_cons_self z.symm) (fun y hy => h2 y (List.mem_cons_of_mem _ (List.mem_append_left _ hy))),
      hr _ _ h1 (fun y hy => h2 y (List.mem_cons_of_mem _ (List.mem_append_right _ hy)))]
    rfl
theorem kids_roots (w : Wd α) : ∀ (q : Option α), (∀ y ∈ nms w, q ≠ some y) → kidsL (prs q w) q = roots w := by
  induction w with
  | nil => intro q _; rfl
  | cons m i r hi hr =>
    intro q h
    show kidsL ((m, q) :: (prs (some m) i ++ prs q r)) q = m :: roots r
    rw [kidsL_cons, if_pos rfl, kidsL_append, kids_none i _ _ (fun z => h m List.mem_cons_self z.symm) (fun y hy => h y (List.mem_cons_of_mem _ (List.mem_append_left _ hy))),
      hr q (fun y hy => h y (List.mem_cons_of_mem _ (List.mem_append_right _ hy)))]
    rfl
theorem kids_agree (w : Wd α) : ∀ (q : Option α) (K : α → List α), (nms w).Nodup → (∀ y ∈ nms w, q ≠ some y) → (∀ n ∈ nms w, K n = kidsL (prs q w) (some n)) → Agree K w := by
  induction w with
  | nil => intro q K _ _ _; trivial
  | cons m i r hi hr =>
    intro q K hn hq hK
    have hn' : (m :: (nms i ++ nms r)).Nodup := hn
    have n1 := List.nodup_cons.mp hn'
    have n2 := List.nodup_append.mp n1.2
    have qm : q ≠ some m := hq m List.mem_cons_self
    have open_ : ∀ n, q ≠ some n → kidsL (prs q (cons m i r)) (some n) = kidsL (prs (some m) i) (some n) ++ kidsL (prs q r) (some n) := by
      intro n h
      show kidsL ((m, q) :: (prs (some m) i ++ prs q r)) (some n) = _
      rw [kidsL_cons, if_neg h, kidsL_append]; rfl
    refine ⟨?_, hi (some m) K n2.1 (fun y hy z => ?_) (fun n hnn => ?_), hr q K n2.2.1 (fun y hy => hq y (List.mem_cons_of_mem _ (List.mem_append_right _ hy))) (fun n hnn => ?_)⟩
    · rw [hK m List.mem_cons_self, open_ m qm, kids_roots i (some m) (fun y hy z => ?_), kids_none r q (some m) qm (fun y hy z => ?_), List.append_nil]
      · injection z with z; rw [← z] at hy; exact n1.1 (List.mem_append_right _ hy)
      · injection z with z; rw [← z] at hy; exact n1.1 (List.mem_append_left _ hy)
    · injection z with z; rw [← z] at hy; exact n1.1 (List.mem_append_left _ hy)
    · have hm : n ∈ nms (cons m i r) := List.mem_cons_of_mem _ (List.mem_append_left _ hnn)
      rw [hK n hm, open_ n (hq n hm), kids_none r q (some n) (hq n hm) (fun y hy z => ?_), List.append_nil]
      injection z with z; rw [← z] at hy; exact n2.2.2 n hnn n hy rfl
    · have hm : n ∈ nms (cons m i r) := List.mem_cons_of_mem _ (List.mem_append_right _ hnn)
      rw [hK n hm, open_ n (hq n hm), kids_none i (some m) (some n) (fun z => ?_) (fun y hy z => ?_), List.nil_append]
      · injection z with z; rw [← z] at hnn; exact n1.1 (List.mem_append_right _ hnn)
      · injection z with z; rw [← z] at hy; exact n2.2.2 n hy n hnn rfl
theorem kids_inj {v w : Wd α} (hv : (nms v).Nodup) (hw : (nms w).Nodup) (h : ∀ q, kidsL (prs none v) q = kidsL (prs none w) q) : v = w := by
  refine agree_one (K := fun n => kidsL (prs none v) (some n)) v w (kids_agree v none _ hv (fun _ _ z => by cases z) fun _ _ => rfl) (kids_agree w none _ hw (fun _ _ z => by cases z) fun n _ => h (some n)) ?_
  rw [← kids_roots v none (fun _ _ z => by cases z), ← kids_roots w none (fun _ _ z => by cases z), h]

/-! ### parents stand ahead of children -/
def pbc : List (Option α) → List (α × Option α) → Prop
  | _, [] => True
  | K, (x, p) :: L => p ∈ K ∧ pbc (some x :: K) L
theorem pbc_mono : ∀ (L : List (α × Option α)) (K K' : List (Option α)), (∀ q ∈ K, q ∈ K') → pbc K L → pbc K' L
  | [], _, _, _, _ => trivial
  | (x, p) :: L, K, K', h, ⟨h1, h2⟩ => ⟨h p h1, pbc_mono L _ _ (fun q hq => by
      rcases List.mem_cons.mp hq with e | hq
      · rw [e]; exact List.mem_cons_self
      · exact List.mem_cons_of_mem _ (h q hq)) h2⟩
theorem pbc_append : ∀ (L M : List (α × Option α)) (K : List (Option α)), pbc K L → pbc K M → pbc K (L ++ M)
  | [], _, _, _, h => h
  | (x, p) :: L, M, K, ⟨h1, h2⟩, h => ⟨h1, pbc_append L M _ h2 (pbc_mono M _ _ (fun q hq => List.mem_cons_of_mem _ hq) h)⟩
theorem pbc_prs (w : Wd α) : ∀ (q : Option α) (K : List (Option α)), q ∈ K → pbc K (prs q w) := by
  induction w with
  | nil => intro q K _; trivial
  | cons n i r hi hr =>
    intro q K h
    exact ⟨h, pbc_append _ _ _ (hi (some n) _ List.mem_cons_self) (hr q _ (List.mem_cons_of_mem _ h))⟩
theorem pbc_at : ∀ (L : List (α × Option α)) (K : List (Option α)) (M : List (α × Option α)) (x : α) (p : Option α), pbc K (L ++ (x, p) :: M) → p ∈ K ∨ ∃ y ∈ L.map (·.1), p = some y
  | [], K, M, x, p, h => .inl h.1
  | (z, r) :: L, K, M, x, p, ⟨h1, h2⟩ => by
    rcases pbc_at L _ M x p h2 with h | ⟨y, hy, e⟩
    · rcases List.mem_cons.mp h with e | h
      · exact .inr ⟨z, by simp, e⟩
      · exact .inl h
    · exact .inr ⟨y, List.mem_cons_of_mem _ hy, e⟩
/-- in a wood: a parent is none or stands ahead -/
theorem prs_ahead {w : Wd α} {L M : List (α × Option α)} {x : α} {p : Option α} (h : prs none w = L ++ (x, p) :: M) : p = none ∨ ∃ y ∈ L.map (·.1), p = some y := by
  have z := pbc_prs w none [none] List.mem_cons_self
  rw [h] at z
  rcases pbc_at L _ M x p z with h | h
  · exact .inl (by simpa using h)
  · exact .inr h
theorem nodup_snd {P : List (α × Option α)} (h : (P.map (·.1)).Nodup) {x : α} {p q : Option α} (h1 : (x, p) ∈ P) (h2 : (x, q) ∈ P) : p = q := by
  induction P with
  | nil => cases h1
  | cons y P ih =>
    have n := List.nodup_cons.mp (show (y.1 :: P.map (·.1)).Nodup from h)
    rcases List.mem_cons.mp h1 with e | h1'
    · rcases List.mem_cons.mp h2 with e2 | h2'
      · rw [← e] at e2; injection e2 with _ e2; exact e2.symm
      · exact absurd (List.mem_map_of_mem (f := (·.1)) h2') (by rw [← e] at n; exact n.1)
    · rcases List.mem_cons.mp h2 with e2 | h2'
      · exact absurd (List.mem_map_of_mem (f := (·.1)) h1') (by rw [← e2] at n; exact n.1)
      · exact ih n.2 h1' h2'

/-! ### the moves of fewest -/
def mvFor (x : α) (p c : Option α) : Mv α := match c with
  | some c => ⟨.behind, x, c⟩
  | none => match p with
    | none => ⟨.front, x, x⟩
    | some p => ⟨.first, x, p⟩
def few (R : α → Bool) : List (α × Option α) → List (α × Option α) → List (Mv α)
  | _, [] => []
  | dn, (x, p) :: L => (if R x = true then [] else [mvFor x p (kidsL dn p).getLast?]) ++ few R (dn ++ [(x, p)]) L
def mvAll (l : List (En α)) : List (Mv α) → Option (List (En α))
  | [] => some l
  | d :: ds => (mvd l d).bind fun l' => mvAll l' ds
theorem mvAll_append (l : List (En α)) (ds es : List (Mv α)) : mvAll l (ds ++ es) = (mvAll l ds).bind fun l' => mvAll l' es := by
  induction ds generalizing l with
  | nil => rfl
  | cons d ds ih =>
    show (mvd l d).bind _ = ((mvd l d).bind _).bind _
    cases mvd l d with
    | none => rfl
    | some l' => exact ih l'

theorem flt_or {S : α → Bool} {a : α} {l : List α} (h : a ∉ l) : l.filter (fun x => S x || decide (x = a)) = l.filter S := by
  apply List.filter_congr
  intro x hx
  have : x ≠ a := fun z => h (z ▸ hx)
  simp [this]
theorem split_uniq {l1 l2 m1 m2 : List α} {c : α} (h : l1 ++ c :: l2 = m1 ++ c :: m2) (h1 : c ∉ l1) (h2 : c ∉ m1) : l1 = m1 ∧ l2 = m2 := by
  induction l1 generalizing m1 with
  | nil =>
    cases m1 with
    | nil => exact ⟨rfl, by injection h⟩
    | cons x m1 =>
      have h' : c :: l2 = x :: (m1 ++ c :: m2) := h
      injection h' with e1 e2
      exact absurd (by rw [e1]; exact List.mem_cons_self) h2
  | cons x l1 ih =>
    cases m1 with
    | nil =>
      have h' : x :: (l1 ++ c :: l2) = c :: m2 := h
      injection h' with e1 e2
      exact absurd (by rw [e1]; exact List.mem_cons_self) h1
    | cons y m1 =>
      have h' : x :: (l1 ++ c :: l2) = y :: (m1 ++ c :: m2) := h
      injection h' with e1 e2
      obtain ⟨q1, q2⟩ := ih e2 (fun z => h1 (List.mem_cons_of_mem _ z)) (fun z => h2 (List.mem_cons_of_mem _ z))
      exact ⟨by rw [e1, q1], q2⟩

/-- lists alone: a put behind the last one done -/
theorem ins_filter {S : α → Bool} {a : α} {p r : Option α} {X1 X2 Y1 Y2 PI L1 L2 : List (α × Option α)}
    (hS : ∀ x ∈ L1.map (·.1), S x = true) (ha : S a = false)
    (inv : ∀ q, (kidsL (X1 ++ (a, r) :: (PI ++ X2)) q).filter S = (kidsL (L1 ++ (a, p) :: L2) q).filter S)
    (e : X1 ++ X2 = Y1 ++ Y2) (nd : ((X1 ++ (a, r) :: (PI ++ X2)).map (·.1)).Nodup) (no : ((L1 ++ (a, p) :: L2).map (·.1)).Nodup)
    (hI : ∀ q, kidsL PI q = [] ∨ kidsL (X1 ++ X2) q = []) (hp : kidsL PI p = [])
    (hlast : (kidsL Y1 p = [] ∧ kidsL L1 p = []) ∨ ∃ c u v, kidsL Y1 p = u ++ [c] ∧ kidsL L1 p = v ++ [c]) :
    ∀ q, (kidsL (Y1 ++ (a, p) :: (PI ++ Y2)) q).filter (fun x => S x || decide (x = a)) = (kidsL (L1 ++ (a, p) :: L2) q).filter (fun x => S x || decide (x = a)) := by
  have aX : a ∉ (X1 ++ X2).map (·.1) ∧ a ∉ PI.map (·.1) := by
    rw [List.map_append, List.map_cons, List.map_append] at nd
    have n1 := List.nodup_append.mp nd
    have n2 := List.nodup_cons.mp n1.2.1
    constructor
    · intro z
      rw [List.map_append] at z
      rcases List.mem_append.mp z with z | z
      · exact n1.2.2 a z a List.mem_cons_self rfl
      · exact n2.1 (List.mem_append_right _ z)
    · intro z
      exact n2.1 (List.mem_append_left _ z)
  have aY : ∀ q, a ∉ kidsL Y1 q ∧ a ∉ kidsL Y2 q ∧ a ∉ kidsL PI q := by
    intro q
    have z := aX.1
    rw [e, List.map_append] at z
    exact ⟨fun w => z (List.mem_append_left _ (kidsL_fst w)), fun w => z (List.mem_append_right _ (kidsL_fst w)), fun w => aX.2 (kidsL_fst w)⟩
  have aL : ∀ q, a ∉ kidsL L1 q ∧ a ∉ kidsL L2 q := by
    intro q
    rw [List.map_append, List.map_cons] at no
    have n1 := List.nodup_append.mp no
    have n2 := List.nodup_cons.mp n1.2.1
    exact ⟨fun w => n1.2.2 a (kidsL_fst w) a List.mem_cons_self rfl, fun w => n2.1 (kidsL_fst w)⟩
  have invq : ∀ q, (kidsL X1 q).filter S ++ ((kidsL PI q).filter S ++ (kidsL X2 q).filter S) = (kidsL L1 q).filter S ++ (kidsL L2 q).filter S := by
    intro q
    have z := inv q
    have fa : ∀ b : Prop, [Decidable b] → ((if b then [a] else []) : List α).filter S = [] := by
      intro b _
      by_cases h : b
      · rw [if_pos h]; simp [ha]
      · rw [if_neg h]; rfl
    rw [kidsL_append, kidsL_cons, kidsL_append, kidsL_append, kidsL_cons] at z
    simp only [List.filter_append, fa, List.nil_append] at z
    exact z
  intro q
  have ek : kidsL X1 q ++ kidsL X2 q = kidsL Y1 q ++ kidsL Y2 q := by rw [← kidsL_append, e, kidsL_append]
  by_cases hq : p = q
  · subst hq
    have i0 := invq p
    rw [hp] at i0
    have i1 : (kidsL Y1 p).filter S ++ (kidsL Y2 p).filter S = (kidsL L1 p).filter S ++ (kidsL L2 p).filter S := by
      rw [← List.filter_append, ← ek, List.filter_append]
      simpa using i0
    have both : (kidsL Y1 p).filter S = (kidsL L1 p).filter S ∧ (kidsL Y2 p).filter S = (kidsL L2 p).filter S := by
      rcases hlast with ⟨h1, h2⟩ | ⟨c, u, v, h1, h2⟩
      · rw [h1, h2] at i1
        rw [h1, h2]
        exact ⟨rfl, by simpa using i1⟩
      · have hc : S c = true := hS c (kidsL_fst (q := p) (by rw [h2]; simp))
        have cu : c ∉ u := by
          have n : (kidsL Y1 p).Nodup := by
            have n0 : ((Y1 ++ Y2).map (·.1)).Nodup := by
              rw [← e]
              refine List.Nodup.sublist ?_ nd
              rw [List.map_append, List.map_append, List.map_cons, List.map_append]
              exact List.Sublist.append (List.Sublist.refl _) ((List.sublist_append_right _ _).cons _)
            rw [List.map_append] at n0
            exact List.Nodup.sublist (kidsL_sub _ _) (List.nodup_append.mp n0).1
          rw [h1] at n
          intro z
          exact (List.nodup_append.mp n).2.2 c z c (by simp) rfl
        have cv : c ∉ v := by
          have n : (kidsL L1 p).Nodup := by
            rw [List.map_append] at no
            exact List.Nodup.sublist (kidsL_sub _ _) (List.nodup_append.mp no).1
          rw [h2] at n
          intro z
          exact (List.nodup_append.mp n).2.2 c z c (by simp) rfl
        have f1 : ∀ u : List α, (u ++ [c]).filter S = u.filter S ++ [c] := by
          intro u; rw [List.filter_append]; simp [hc]
        rw [h1, h2, f1, f1] at i1
        rw [h1, h2, f1, f1]
        have i2 : u.filter S ++ c :: (kidsL Y2 p).filter S = v.filter S ++ c :: (kidsL L2 p).filter S := by simpa using i1
        obtain ⟨q1, q2⟩ := split_uniq i2 (fun z => cu (List.mem_filter.mp z).1) (fun z => cv (List.mem_filter.mp z).1)
        exact ⟨by rw [q1], q2⟩
    rw [kidsL_append, kidsL_cons, if_pos rfl, kidsL_append, hp, kidsL_append, kidsL_cons, if_pos rfl]
    simp only [List.filter_append, List.filter_nil, List.nil_append]
    rw [flt_or (aY p).1, flt_or (aY p).2.1, flt_or (aL p).1, flt_or (aL p).2, both.1, both.2]
  · rw [kidsL_append, kidsL_cons, if_neg hq, kidsL_append, kidsL_append, kidsL_cons, if_neg hq]
    simp only [List.nil_append, List.filter_append]
    rw [flt_or (aY q).1, flt_or (aY q).2.1, flt_or (aY q).2.2, flt_or (aL q).1, flt_or (aL q).2, ← invq q]
    rcases hI q with h | h
    · rw [h]
      simp only [List.filter_nil, List.nil_append]
      rw [← List.filter_append, ← ek, List.filter_append]
    · rw [kidsL_append] at h
      have h1 := List.append_eq_nil_iff.mp h
      have h2 : kidsL Y1 q ++ kidsL Y2 q = [] := by rw [← ek, h1.1, h1.2]; rfl
      have h3 := List.append_eq_nil_iff.mp h2
      rw [h1.1, h1.2, h3.1, h3.2]
end
end K76
/-! text M4 -/
/-! M4: one step of fewest; all of them -/
set_option linter.all false
set_option autoImplicit false
namespace K76
open Wd
section
variable {α : Type} [DecidableEq α]

theorem few_step {o w : Wd α} (ho : (nms o).Nodup) (hw : (nms w).Nodup) (hp : (nms w).Perm (nms o)) {L1 L2 : List (α × Option α)} {a : α} {p : Option α} (eo : prs none o = L1 ++ (a, p) :: L2)
    {S : α → Bool} (hS : ∀ x ∈ L1.map (·.1), S x = true) (ha : S a = false) (inv : ∀ q, (kidsL (prs none w) q).filter S = (kidsL (prs none o) q).filter S) :
    ∃ w' : Wd α, mvd (row w) (mvFor a p (kidsL L1 p).getLast?) = some (row w') ∧ (nms w').Perm (nms w) ∧
      ∀ q, (kidsL (prs none w') q).filter (fun x => S x || decide (x = a)) = (kidsL (prs none o) q).filter (fun x => S x || decide (x = a)) := by
  have no : ((L1 ++ (a, p) :: L2).map (·.1)).Nodup := by rw [← eo, prs_nms]; exact ho
  have aL1 : a ∉ L1.map (·.1) := by
    rw [List.map_append, List.map_cons] at no
    exact fun z => (List.nodup_append.mp no).2.2 a z a List.mem_cons_self rfl
  have ao : a ∈ nms o := by rw [← prs_nms o none, eo]; simp
  have aw : a ∈ nms w := hp.mem_iff.mpr ao
  obtain ⟨A, I, B, s, hat⟩ := at_of hw aw
  obtain ⟨v, hv⟩ := parse hat.runv
  have pv : prs none v = rprs [] A ++ rprs s B := by
    have z := rprs_row v []
    rw [hv, rprs_append _ _ _ _ hat.rn] at z
    exact z.symm
  have pw := hat.prsq
  have nw : ((rprs [] A ++ (a, s.head?) :: (prs (some a) I ++ rprs s B)).map (·.1)).Nodup := by rw [← pw, prs_nms]; exact hw
  have nv : nms v = ops A ++ ops B := by rw [← ops_row, hv, ops_append]
  have nvd : (nms v).Nodup := by
    rw [nv]
    refine List.Nodup.sublist ?_ hat.nd
    exact List.Sublist.append (List.Sublist.refl _) ((List.sublist_append_right _ _).cons _)
  -- what is done has its parent
  have par : ∀ x q, (x, q) ∈ L1 → (x, q) ∈ prs none w := by
    intro x q hx
    have h1 : x ∈ (kidsL (prs none o) q).filter S := List.mem_filter.mpr ⟨mem_kidsL.mpr (by rw [eo]; exact List.mem_append_left _ hx), hS x (List.mem_map_of_mem (f := (·.1)) hx)⟩
    rw [← inv q] at h1
    exact mem_kidsL.mp (List.mem_filter.mp h1).1
  have nwp : ((prs none w).map (·.1)).Nodup := by rw [prs_nms]; exact hw
  have inI : ∀ x q, (x, q) ∈ prs (some a) I → (x, q) ∈ prs none w := by
    intro x q h
    rw [pw]
    exact List.mem_append_right _ (List.mem_cons_of_mem _ (List.mem_append_left _ h))
  have out : ∀ (k : Nat) (M1 M2 : List (α × Option α)) (x : α) (q : Option α), M1.length ≤ k → L1 = M1 ++ (x, q) :: M2 → x ∉ nms I := by
    intro k
    induction k with
    | zero =>
      intro M1 M2 x q hk e hx
      have e0 : M1 = [] := List.length_eq_zero_iff.mp (Nat.le_zero.mp hk)
      subst e0
      rw [← prs_nms I (some a)] at hx
      obtain ⟨⟨x', q'⟩, h1, h2⟩ := List.mem_map.mp hx
      have h2' : x' = x := h2
      subst h2'
      have e1 := nodup_snd nwp (inI _ _ h1) (par x' q (by rw [e]; exact List.mem_cons_self))
      have e2 : prs none o = [] ++ (x', q) :: (M2 ++ (a, p) :: L2) := by rw [eo, e]; rfl
      rcases prs_ahead e2 with z | ⟨y, hy, z⟩
      · rcases prs_par I (some a) x' q' h1 with z2 | ⟨y, _, z2⟩
        · rw [e1, z] at z2; cases z2
        · rw [e1, z] at z2; cases z2
      · cases hy
    | succ k ih =>
      intro M1 M2 x q hk e hx
      rw [← prs_nms I (some a)] at hx
      obtain ⟨⟨x', q'⟩, h1, h2⟩ := List.mem_map.mp hx
      have h2' : x' = x := h2
      subst h2'
      have e1 := nodup_snd nwp (inI _ _ h1) (par x' q (by rw [e]; simp))
      have e2 : prs none o = M1 ++ (x', q) :: (M2 ++ (a, p) :: L2) := by rw [eo, e]; simp
      rcases prs_ahead e2 with z | ⟨y, hy, z⟩
      · rcases prs_par I (some a) x' q' h1 with z2 | ⟨y, _, z2⟩
        · rw [e1, z] at z2; cases z2
        · rw [e1, z] at z2; cases z2
      · obtain ⟨⟨y', r⟩, hy1, hy2⟩ := List.mem_map.mp hy
        have hy2' : y' = y := hy2
        subst hy2'
        obtain ⟨N1, N2, en⟩ := List.append_of_mem hy1
        have hyI : y' ∉ nms I := by
          refine ih N1 (N2 ++ (x', q) :: M2) y' r ?_ (by rw [e, en]; simp)
          have := congrArg List.length en
          rw [List.length_append, List.length_cons] at this
          omega
        rcases prs_par I (some a) x' q' h1 with z2 | ⟨y, hy, z2⟩
        · rw [e1, z] at z2
          injection z2 with z2
          exact aL1 (by rw [← z2, e, List.map_append]; exact List.mem_append_left _ (List.mem_map_of_mem (f := (·.1)) hy1))
        · rw [e1, z] at z2
          injection z2 with z2
          rw [← z2] at hy
          exact hyI hy
  have outL : ∀ x ∈ L1.map (·.1), x ∈ nms v := by
    intro x hx
    obtain ⟨⟨x', q⟩, h1, h2⟩ := List.mem_map.mp hx
    have h2' : x' = x := h2
    subst h2'
    obtain ⟨M1, M2, e⟩ := List.append_of_mem h1
    have hI := out M1.length M1 M2 x' q (Nat.le_refl _) e
    have hw' : x' ∈ nms w := hp.mem_iff.mpr (by rw [← prs_nms o none, eo, List.map_append]; exact List.mem_append_left _ hx)
    rw [← ops_row, hat.eq, ops_append, ops_op, ops_append, ops_row, ops_cl] at hw'
    rw [nv]
    rcases List.mem_append.mp hw' with h | h
    · exact List.mem_append_left _ h
    · rcases List.mem_cons.mp h with h | h
      · exact absurd hx (by rw [h]; exact aL1)
      · rcases List.mem_append.mp h with h | h
        · exact absurd h hI
        · exact List.mem_append_right _ h
  have vI : ∀ x ∈ nms v, x ≠ a ∧ x ∉ nms I := by
    intro x hx
    rw [nv] at hx
    rcases List.mem_append.mp hx with h | h
    · exact ⟨fun z => hat.nop (z ▸ h), hat.dAI x h⟩
    · exact ⟨fun z => hat.nB (z ▸ h), hat.dBI x h⟩
  have hpp : p = none ∨ ∃ y ∈ nms v, p = some y := by
    rcases prs_ahead eo with h | ⟨y, hy, h⟩
    · exact .inl h
    · exact .inr ⟨y, outL y hy, h⟩
  have hI : ∀ q, kidsL (prs (some a) I) q = [] ∨ kidsL (rprs [] A ++ rprs s B) q = [] := by
    intro q
    cases q with
    | none => exact .inl (kids_none I _ _ (by simp) (by simp))
    | some y =>
      by_cases hy : y ∈ nms v
      · obtain ⟨h1, h2⟩ := vI y hy
        exact .inl (kids_none I _ _ (by simp [Ne.symm h1]) (fun z hz e => by injection e with e; exact h2 (e ▸ hz)))
      · right
        rw [← pv]
        exact kids_none v none (some y) (by simp) (fun z hz e => by injection e with e; exact hy (e ▸ hz))
  have hIp : kidsL (prs (some a) I) p = [] := by
    rcases hpp with h | ⟨y, hy, h⟩
    · rw [h]; exact kids_none I _ _ (by simp) (by simp)
    · rw [h]
      obtain ⟨h1, h2⟩ := vI y hy
      exact kids_none I _ _ (by simp [Ne.symm h1]) (fun z hz e => by injection e with e; exact h2 (e ▸ hz))
  have aop : En.op a ∈ row w := (op_mem_row w a).mpr aw
  -- the move, told by its place
  have go : ∀ (t : Nat) (A' B' : List (En α)) (s' : List α), place (A ++ B) (mvFor a p (kidsL L1 p).getLast?) = some t → (A ++ B).take t = A' → (A ++ B).drop t = B' → run [] A' = some s' → s'.head? = p → (mvFor a p (kidsL L1 p).getLast?).a = a →
      ((kidsL (rprs [] A') p = [] ∧ kidsL L1 p = []) ∨ ∃ c u v, kidsL (rprs [] A') p = u ++ [c] ∧ kidsL L1 p = v ++ [c]) →
      ∃ w' : Wd α, mvd (row w) (mvFor a p (kidsL L1 p).getLast?) = some (row w') ∧ (nms w').Perm (nms w) ∧
        ∀ q, (kidsL (prs none w') q).filter (fun x => S x || decide (x = a)) = (kidsL (prs none o) q).filter (fun x => S x || decide (x = a)) := by
    intro t A' B' s' ht eA eB rs hs ea hl
    have e : A ++ B = A' ++ B' := by rw [← eA, ← eB, List.take_append_drop]
    obtain ⟨w', s2, r2, ew, pw', ep, perm⟩ := hat.put e
    rw [rs] at r2
    cases r2
    refine ⟨w', ?_, perm, ?_⟩
    · unfold mvd
      rw [ea, if_pos aop, hat.rest, hat.blk, ht, Option.map_some, eA, eB, ew]
    · rw [pw', hs, eo]
      rw [pw, eo] at inv
      exact ins_filter hS ha inv ep nw no hI hIp hl
  cases hl : (kidsL L1 p).getLast? with
  | none =>
    have k0 : kidsL L1 p = [] := List.getLast?_eq_none_iff.mp hl
    rw [hl] at go
    cases p with
    | none =>
      exact go 0 [] (A ++ B) [] rfl rfl rfl rfl rfl rfl (.inl ⟨rfl, k0⟩)
    | some y =>
      obtain ⟨y', hy, ey⟩ := hpp.resolve_left (by simp)
      injection ey with ey
      subst ey
      obtain ⟨A2, J, B2, s2, h2⟩ := at_of nvd hy
      have e1 : A ++ B = (A2 ++ [En.op y]) ++ (row J ++ En.cl y :: B2) := by rw [← hv, h2.eq]; simp
      have l1 : (A2 ++ [En.op y]).length = A2.length + 1 := by simp
      have r1 : run [] (A2 ++ [En.op y]) = some (y :: s2) := by
        rw [run_append, h2.rn]; rfl
      refine go (A2.length + 1) (A2 ++ [En.op y]) (row J ++ En.cl y :: B2) (y :: s2) ?_ ?_ ?_ r1 rfl rfl (.inl ⟨?_, k0⟩)
      · show (if En.op y ∈ A ++ B then some ((A ++ B).idxOf (En.op y) + 1) else none) = _
        rw [← hv, if_pos ((op_mem_row v y).mpr hy), h2.i]
      · rw [e1, ← l1, List.take_left]
      · rw [e1, ← l1, List.drop_left]
      · rw [rprs_append _ _ _ _ h2.rn, kidsL_append]
        show _ ++ kidsL ((y, s2.head?) :: []) (some y) = []
        have f1 : kidsL (rprs [] A2) (some y) = [] := by
          apply List.eq_nil_iff_forall_not_mem.mpr
          intro x hx
          rcases rprs_par A2 [] x y (mem_kidsL.mp hx) with z | z
          · cases z
          · exact h2.nop z
        have f2 : s2.head? ≠ some y := by
          intro z
          exact h2.nop (h2.sub y (List.mem_of_mem_head? z))
        rw [f1, kidsL_cons, if_neg f2]
        rfl
  | some c =>
    obtain ⟨u, eu⟩ := List.getLast?_eq_some_iff.mp hl
    rw [hl] at go
    have hc : (c, p) ∈ L1 := mem_kidsL.mp (by rw [eu]; simp)
    have hcv : c ∈ nms v := outL c (List.mem_map_of_mem (f := (·.1)) hc)
    obtain ⟨A2, J, B2, s2, h2⟩ := at_of nvd hcv
    have e1 : A ++ B = (A2 ++ En.op c :: (row J ++ [En.cl c])) ++ B2 := by rw [← hv, h2.eq]; simp
    have l1 : (A2 ++ En.op c :: (row J ++ [En.cl c])).length = A2.length + 1 + (row J).length + 1 := by simp; omega
    have rb : run s2 (En.op c :: (row J ++ [En.cl c])) = some s2 := by
      show run (c :: s2) (row J ++ [En.cl c]) = some s2
      rw [run_append, run_row]
      show (if c = c then run s2 [] else none) = some s2
      rw [if_pos rfl]; rfl
    have r1 : run [] (A2 ++ En.op c :: (row J ++ [En.cl c])) = some s2 := by
      rw [run_append, h2.rn]; exact rb
    have nvp : ((prs none v).map (·.1)).Nodup := by rw [prs_nms]; exact nvd
    have sp : s2.head? = p := by
      have m1 : (c, s2.head?) ∈ prs none v := by rw [h2.prsq]; simp
      have m2 : (c, s2.head?) ∈ prs none w := by
        rw [pw]
        rw [pv] at m1
        rcases List.mem_append.mp m1 with z | z
        · exact List.mem_append_left _ z
        · exact List.mem_append_right _ (List.mem_cons_of_mem _ (List.mem_append_right _ z))
      exact nodup_snd nwp m2 (par c p hc)
    refine go (A2.length + 1 + (row J).length + 1) _ B2 s2 ?_ ?_ ?_ r1 sp rfl (.inr ⟨c, kidsL (rprs [] A2) p, u, ?_, eu⟩)
    · show (if En.cl c ∈ A ++ B then some ((A ++ B).idxOf (En.cl c) + 1) else none) = _
      rw [← hv, if_pos ((cl_mem_row v c).mpr hcv), h2.j]
    · rw [e1, ← l1, List.take_left]
    · rw [e1, ← l1, List.drop_left]
    · rw [rprs_append _ _ _ _ h2.rn, kidsL_append]
      have e2 : rprs s2 (En.op c :: (row J ++ [En.cl c])) = (c, s2.head?) :: prs (some c) J := by
        show (c, s2.head?) :: rprs (c :: s2) (row J ++ [En.cl c]) = _
        rw [rprs_append _ _ _ _ (run_row J (c :: s2)), rprs_row]
        show (c, s2.head?) :: (prs (some c) J ++ []) = _
        rw [List.append_nil]
      rw [e2, kidsL_cons, if_pos sp]
      have f1 : kidsL (prs (some c) J) p = [] := by
        rw [← sp]
        refine kids_none J _ _ ?_ ?_
        · intro z
          exact h2.nop (h2.sub c (List.mem_of_mem_head? z.symm))
        · intro y hy z
          exact h2.dAI y (h2.sub y (List.mem_of_mem_head? z)) hy
      rw [f1, List.append_nil]

/-- the rest that no move touches, and what is done -/
def stayS (R : α → Bool) (dn : List (α × Option α)) (x : α) : Bool := decide (x ∈ dn.map (·.1)) || R x
theorem stay_snoc (R : α → Bool) (dn : List (α × Option α)) (a : α) (p : Option α) (x : α) : stayS R (dn ++ [(a, p)]) x = (stayS R dn x || decide (x = a)) := by
  unfold stayS
  have e : x ∈ (dn ++ [(a, p)]).map (·.1) ↔ (x ∈ dn.map (·.1) ∨ x = a) := by
    rw [List.map_append, List.mem_append]
    exact or_congr_right (by simp)
  by_cases h1 : x ∈ dn.map (·.1)
  · rw [decide_eq_true (e.mpr (.inl h1)), decide_eq_true h1]; rfl
  · by_cases h2 : x = a
    · rw [decide_eq_true (e.mpr (.inr h2)), decide_eq_true h2, Bool.or_true]; rfl
    · rw [decide_eq_false (fun z => (e.mp z).elim h1 h2), decide_eq_false h1, decide_eq_false h2, Bool.or_false]
theorem few_leads_aux {o : Wd α} (ho : (nms o).Nodup) (R : α → Bool) : ∀ (L dn : List (α × Option α)) (w : Wd α), prs none o = dn ++ L → (nms w).Nodup → (nms w).Perm (nms o) →
    (∀ q, (kidsL (prs none w) q).filter (stayS R dn) = (kidsL (prs none o) q).filter (stayS R dn)) → mvAll (row w) (few R dn L) = some (row o)
  | [], dn, w, e, hw, hp, inv => by
    have all : ∀ x ∈ nms o, stayS R dn x = true := by
      intro x hx
      rw [← prs_nms o none, e, List.append_nil] at hx
      unfold stayS
      rw [decide_eq_true hx]; rfl
    have k : ∀ q, kidsL (prs none w) q = kidsL (prs none o) q := by
      intro q
      have h := inv q
      rw [List.filter_eq_self.mpr fun x hx => all x (hp.mem_iff.mp (by rw [← prs_nms w none]; exact kidsL_fst hx)),
        List.filter_eq_self.mpr fun x hx => all x (by rw [← prs_nms o none]; exact kidsL_fst hx)] at h
      exact h
    rw [kids_inj hw ho k]
    rfl
  | (a, p) :: L, dn, w, e, hw, hp, inv => by
    have e' : prs none o = (dn ++ [(a, p)]) ++ L := by rw [e]; simp
    show mvAll (row w) ((if R a = true then [] else [mvFor a p (kidsL dn p).getLast?]) ++ few R (dn ++ [(a, p)]) L) = _
    by_cases hR : R a = true
    · rw [if_pos hR]
      refine few_leads_aux ho R L _ w e' hw hp fun q => ?_
      have es : stayS R (dn ++ [(a, p)]) = stayS R dn := by
        funext x
        rw [stay_snoc]
        by_cases hx : x = a
        · have z : stayS R dn a = true := by
            unfold stayS; rw [hR, Bool.or_true]
          rw [hx, z]; rfl
        · rw [decide_eq_false hx, Bool.or_false]
      rw [es]
      exact inv q
    · rw [if_neg hR]
      have no : ((dn ++ (a, p) :: L).map (·.1)).Nodup := by rw [← e, prs_nms]; exact ho
      have adn : a ∉ dn.map (·.1) := by
        rw [List.map_append, List.map_cons] at no
        exact fun z => (List.nodup_append.mp no).2.2 a z a List.mem_cons_self rfl
      obtain ⟨w', h1, h2, h3⟩ := few_step ho hw hp e (S := stayS R dn) (fun x hx => by unfold stayS; rw [decide_eq_true hx]; rfl) (by unfold stayS; simp [adn, hR]) inv
      show (mvd (row w) _).bind _ = _
      rw [h1]
      refine few_leads_aux ho R L _ w' e' (h2.nodup_iff.mpr hw) (h2.trans hp) fun q => ?_
      have es : stayS R (dn ++ [(a, p)]) = fun x => stayS R dn x || decide (x = a) := by
        funext x
        exact stay_snoc R dn a p x
      rw [es]
      exact h3 q
theorem few_leads {o w : Wd α} (ho : (nms o).Nodup) (hw : (nms w).Nodup) (hp : (nms w).Perm (nms o)) (R : α → Bool)
    (inv : ∀ q, (kidsL (prs none w) q).filter R = (kidsL (prs none o) q).filter R) : mvAll (row w) (few R [] (prs none o)) = some (row o) := by
  refine few_leads_aux ho R _ [] w rfl hw hp fun q => ?_
  have es : stayS R [] = R := by
    funext x
    simp [stayS]
  rw [es]
  exact inv q
theorem few_len (R : α → Bool) : ∀ (L dn : List (α × Option α)), (few R dn L).length + ((L.map (·.1)).filter R).length = L.length
  | [], dn => rfl
  | (a, p) :: L, dn => by
    have ih := few_len R L (dn ++ [(a, p)])
    show ((if R a = true then [] else [mvFor a p (kidsL dn p).getLast?]) ++ few R (dn ++ [(a, p)]) L).length + ((a :: L.map (·.1)).filter R).length = L.length + 1
    rw [List.filter_cons]
    by_cases h : R a = true
    · rw [if_pos h, if_pos h]; simp; omega
    · rw [if_neg h, if_neg h]; simp; omega
end
end K76
/-! text M5 -/
/-! M5: longest rows in order: lengths, the rest, their count -/
set_option linter.all false
set_option autoImplicit false
namespace K76
open Wd
section
variable {α : Type} [DecidableEq α]

/-! ### lists -/
theorem len_le_of_sub {β : Type} [DecidableEq β] : ∀ (l m : List β), l.Nodup → (∀ x ∈ l, x ∈ m) → l.length ≤ m.length
  | [], _, _, _ => Nat.zero_le _
  | x :: l, m, hn, hs => by
    have n := List.nodup_cons.mp hn
    have hx : x ∈ m := hs x List.mem_cons_self
    have ih := len_le_of_sub l (m.erase x) n.2 fun y hy => by
      have hne : y ≠ x := fun e => n.1 (e ▸ hy)
      exact (List.mem_erase_of_ne hne).mpr (hs y (List.mem_cons_of_mem _ hy))
    have e := List.length_erase_of_mem hx
    have p : 0 < m.length := List.length_pos_of_mem hx
    rw [List.length_cons]
    omega
theorem sub_filter {β : Type} [DecidableEq β] : ∀ {l m : List β}, l.Sublist m → m.Nodup → m.filter (fun x => decide (x ∈ l)) = l := by
  intro l m h
  induction h with
  | slnil => intro _; rfl
  | @cons l m x h ih =>
    intro hn
    have n := List.nodup_cons.mp hn
    rw [List.filter_cons, if_neg (by simp; exact fun z => n.1 (h.subset z))]
    exact ih n.2
  | @cons_cons l m x h ih =>
    intro hn
    have n := List.nodup_cons.mp hn
    rw [List.filter_cons, if_pos (by simp)]
    congr 1
    have ih' := ih n.2
    have e : m.filter (fun y => decide (y ∈ x :: l)) = m.filter (fun y => decide (y ∈ l)) := by
      apply List.filter_congr
      intro y hy
      have hne : y ≠ x := fun e => n.1 (e ▸ hy)
      have z : y ∈ x :: l ↔ y ∈ l := by simp [hne]
      by_cases h2 : y ∈ l
      · rw [decide_eq_true h2, decide_eq_true (z.mpr h2)]
      · rw [decide_eq_false h2, decide_eq_false (fun q => h2 (z.mp q))]
    rw [e]; exact ih'
theorem sub_eq {β : Type} [DecidableEq β] {l k m : List β} (h1 : l.Sublist m) (h2 : k.Sublist m) (hn : m.Nodup) (h : ∀ x, x ∈ l ↔ x ∈ k) : l = k := by
  rw [← sub_filter h1 hn, ← sub_filter h2 hn]
  apply List.filter_congr
  intro x _
  by_cases h2 : x ∈ k
  · rw [decide_eq_true h2, decide_eq_true ((h x).mpr h2)]
  · rw [decide_eq_false h2, decide_eq_false (fun q => h2 ((h x).mp q))]
theorem sorted_eq {β : Type} {T : β → Nat} : ∀ {l k : List β}, l.Pairwise (fun x y => T x < T y) → k.Pairwise (fun x y => T x < T y) → (∀ x, x ∈ l ↔ x ∈ k) → l = k
  | [], [], _, _, _ => rfl
  | [], y :: k, _, _, h => absurd ((h y).mpr List.mem_cons_self) (by simp)
  | x :: l, [], _, _, h => absurd ((h x).mp List.mem_cons_self) (by simp)
  | x :: l, y :: k, h1, h2, h => by
    have p1 := List.pairwise_cons.mp h1
    have p2 := List.pairwise_cons.mp h2
    have e : x = y := by
      rcases List.mem_cons.mp ((h x).mp List.mem_cons_self) with e | hx
      · exact e
      · rcases List.mem_cons.mp ((h y).mpr List.mem_cons_self) with e | hy
        · exact e.symm
        · have a := p1.1 y hy
          have b := p2.1 x hx
          omega
    subst e
    congr 1
    refine sorted_eq p1.2 p2.2 fun z => ?_
    have hz := h z
    simp only [List.mem_cons] at hz
    constructor
    · intro m
      rcases hz.mp (.inr m) with e | m2
      · have := p1.1 z m; rw [e] at this; omega
      · exact m2
    · intro m
      rcases hz.mpr (.inr m) with e | m2
      · have := p2.1 z m; rw [e] at this; omega
      · exact m2

/-! ### lengths -/
abbrev Tri (α : Type) := α × Option α × Nat
def bst (T : α → Nat) (t : Nat) (l : List (α × Nat)) : Nat := l.foldl (fun b e => if T e.1 < t ∧ b < e.2 then e.2 else b) 0
def ofP (F : List (Tri α)) (p : Option α) : List (α × Nat) := (F.filter fun e => decide (e.2.1 = p)).map fun e => (e.1, e.2.2)
def best (T : α → Nat) (F : List (Tri α)) (p : Option α) (t : Nat) : Nat := bst T t (ofP F p)
def lensA (T : α → Nat) : List (Tri α) → List (α × Option α) → List (Tri α)
  | F, [] => F
  | F, (x, p) :: L => lensA T (F ++ [(x, p, best T F p (T x) + 1)]) L
theorem mem_ofP {F : List (Tri α)} {p : Option α} {x : α} {f : Nat} : (x, f) ∈ ofP F p ↔ (x, p, f) ∈ F := by
  unfold ofP
  simp only [List.mem_map, List.mem_filter, decide_eq_true_eq]
  constructor
  · rintro ⟨⟨y, q, g⟩, ⟨h1, h2⟩, h3⟩
    have h2' : q = p := h2
    have h3' : (y, g) = (x, f) := h3
    injection h3' with e1 e2
    rw [← h2', ← e1, ← e2]; exact h1
  · intro h
    exact ⟨(x, p, f), ⟨h, rfl⟩, rfl⟩
theorem bst_fold (T : α → Nat) (t : Nat) : ∀ (l : List (α × Nat)) (b : Nat),
    b ≤ l.foldl (fun b e => if T e.1 < t ∧ b < e.2 then e.2 else b) b ∧
    (∀ e ∈ l, T e.1 < t → e.2 ≤ l.foldl (fun b e => if T e.1 < t ∧ b < e.2 then e.2 else b) b) ∧
    (l.foldl (fun b e => if T e.1 < t ∧ b < e.2 then e.2 else b) b = b ∨ ∃ e ∈ l, T e.1 < t ∧ e.2 = l.foldl (fun b e => if T e.1 < t ∧ b < e.2 then e.2 else b) b)
  | [], b => ⟨Nat.le_refl b, fun _ h => (nomatch h), .inl rfl⟩
  | e :: l, b => by
    rw [List.foldl_cons]
    obtain ⟨h1, h2, h3⟩ := bst_fold T t l (if T e.1 < t ∧ b < e.2 then e.2 else b)
    by_cases c : T e.1 < t ∧ b < e.2
    · rw [if_pos c] at h1 h2 h3 ⊢
      refine ⟨by omega, fun z hz ht => ?_, ?_⟩
      · rcases List.mem_cons.mp hz with q | hz
        · rw [q]; exact h1
        · exact h2 z hz ht
      · rcases h3 with h | ⟨z, hz, h⟩
        · exact .inr ⟨e, List.mem_cons_self, c.1, h.symm⟩
        · exact .inr ⟨z, List.mem_cons_of_mem _ hz, h⟩
    · rw [if_neg c] at h1 h2 h3 ⊢
      refine ⟨h1, fun z hz ht => ?_, ?_⟩
      · rcases List.mem_cons.mp hz with q | hz
        · have : ¬ b < e.2 := fun k => c ⟨by rw [← q]; exact ht, k⟩
          rw [q]; omega
        · exact h2 z hz ht
      · rcases h3 with h | ⟨z, hz, h⟩
        · exact .inl h
        · exact .inr ⟨z, List.mem_cons_of_mem _ hz, h⟩
theorem best_ge {T : α → Nat} {F : List (Tri α)} {p : Option α} {t : Nat} {x : α} {f : Nat} (h : (x, p, f) ∈ F) (ht : T x < t) : f ≤ best T F p t :=
  (bst_fold T t (ofP F p) 0).2.1 (x, f) (mem_ofP.mpr h) ht
theorem best_eq (T : α → Nat) (F : List (Tri α)) (p : Option α) (t : Nat) : best T F p t = 0 ∨ ∃ x, (x, p, best T F p t) ∈ F ∧ T x < t := by
  rcases (bst_fold T t (ofP F p) 0).2.2 with h | ⟨⟨x, f⟩, hx, h1, h2⟩
  · exact .inl h
  · refine .inr ⟨x, ?_, h1⟩
    have h2' : f = best T F p t := h2
    rw [← h2']
    exact mem_ofP.mp hx
def Good (T : α → Nat) (F : List (Tri α)) : Prop := ∀ F1 x p f F2, F = F1 ++ (x, p, f) :: F2 → f = best T F1 p (T x) + 1
theorem good_snoc {T : α → Nat} {F : List (Tri α)} (h : Good T F) (x : α) (p : Option α) : Good T (F ++ [(x, p, best T F p (T x) + 1)]) := by
  intro F1 y q g F2 e
  rcases List.eq_nil_or_concat F2 with e2 | ⟨F3, z, e2⟩
  · subst e2
    obtain ⟨e3, e4⟩ := List.append_inj' e rfl
    injection e4 with e4 _
    injection e4 with e5 e6
    injection e6 with e6 e7
    subst e3 e5 e6
    exact e7.symm
  · rw [e2] at e
    have e3 : F ++ [(x, p, best T F p (T x) + 1)] = (F1 ++ (y, q, g) :: F3) ++ [z] := by rw [e]; simp
    exact h F1 y q g F3 (List.append_inj' e3 rfl).1
theorem good_lens {T : α → Nat} : ∀ (L : List (α × Option α)) (F : List (Tri α)), Good T F → Good T (lensA T F L)
  | [], _, h => h
  | (x, p) :: L, F, h => good_lens L _ (good_snoc h x p)
theorem lens_map {T : α → Nat} : ∀ (L : List (α × Option α)) (F : List (Tri α)), (lensA T F L).map (fun e => (e.1, e.2.1)) = F.map (fun e => (e.1, e.2.1)) ++ L
  | [], F => by simp [lensA]
  | (x, p) :: L, F => by
    show (lensA T (F ++ [(x, p, best T F p (T x) + 1)]) L).map _ = _
    rw [lens_map L]
    simp
theorem good_pos {T : α → Nat} {F : List (Tri α)} (h : Good T F) {x : α} {p : Option α} {f : Nat} (hx : (x, p, f) ∈ F) : 1 ≤ f := by
  obtain ⟨F1, F2, e⟩ := List.append_of_mem hx
  have := h F1 x p f F2 e
  omega
/-- a later one that stands in order is longer -/
theorem good_lt {T : α → Nat} {F : List (Tri α)} (h : Good T F) {F1 F2 : List (Tri α)} {x y : α} {p : Option α} {f g : Nat} (e : F = F1 ++ (x, p, f) :: F2) (hy : (y, p, g) ∈ F1) (ht : T y < T x) : g < f := by
  have a := h F1 x p f F2 e
  have b := best_ge hy ht
  omega
theorem good_pred {T : α → Nat} {F : List (Tri α)} (h : Good T F) {F1 F2 : List (Tri α)} {x : α} {p : Option α} {f : Nat} (e : F = F1 ++ (x, p, f) :: F2) : f - 1 = 0 ∨ ∃ y, (y, p, f - 1) ∈ F1 ∧ T y < T x := by
  have a := h F1 x p f F2 e
  have e1 : f - 1 = best T F1 p (T x) := by omega
  rw [e1]
  exact best_eq T F1 p (T x)
theorem good_front {T : α → Nat} {F G : List (Tri α)} (h : Good T (F ++ G)) : Good T F := by
  intro F1 x p f F2 e
  exact h F1 x p f (F2 ++ G) (by rw [e]; simp)

/-! ### the rest, told from behind -/
abbrev Wn (α : Type) := Option α → Nat × Nat
def wput (W : Wn α) (p : Option α) (v : Nat × Nat) : Wn α := fun q => if q = p then v else W q
def rst (T : α → Nat) : Wn α → List (Tri α) → List (Tri α)
  | _, [] => []
  | W, (x, p, f) :: G => if f = (W p).1 ∧ T x < (W p).2 then (x, p, f) :: rst T (wput W p ((W p).1 - 1, T x)) G else rst T W G
theorem rst_sub {T : α → Nat} : ∀ (G : List (Tri α)) (W : Wn α), (rst T W G).Sublist G
  | [], _ => List.Sublist.refl _
  | (x, p, f) :: G, W => by
    unfold rst
    by_cases h : f = (W p).1 ∧ T x < (W p).2
    · rw [if_pos h]; exact (rst_sub G _).cons_cons _
    · rw [if_neg h]; exact (rst_sub G _).cons _
theorem rst_order {T : α → Nat} : ∀ (G : List (Tri α)) (W : Wn α), (rst T W G).Pairwise (fun y x => y.2.1 = x.2.1 → T x.1 < T y.1) ∧ ∀ e ∈ rst T W G, T e.1 < (W e.2.1).2
  | [], _ => ⟨List.Pairwise.nil, fun _ h => (nomatch h)⟩
  | (x, p, f) :: G, W => by
    unfold rst
    by_cases h : f = (W p).1 ∧ T x < (W p).2
    · rw [if_pos h]
      obtain ⟨h1, h2⟩ := rst_order G (wput W p ((W p).1 - 1, T x))
      refine ⟨List.pairwise_cons.mpr ⟨fun e he hp => ?_, h1⟩, fun e he => ?_⟩
      · have hp' : p = e.2.1 := hp
        have := h2 e he
        unfold wput at this
        rw [if_pos hp'.symm] at this
        exact this
      · rcases List.mem_cons.mp he with q | he
        · rw [q]; exact h.2
        · have z := h2 e he
          unfold wput at z
          by_cases hp : e.2.1 = p
          · rw [if_pos hp] at z
            have z' : T e.1 < T x := z
            rw [hp]; omega
          · rw [if_neg hp] at z; exact z
    · rw [if_neg h]; exact rst_order G W
theorem rst_all {T : α → Nat} : ∀ (G : List (Tri α)) (W : Wn α), Good T G.reverse → (∀ p, (W p).1 = 0 ∨ ∃ x, (x, p, (W p).1) ∈ G ∧ T x < (W p).2) →
    ∀ p k, 1 ≤ k → k ≤ (W p).1 → ∃ x, (x, p, k) ∈ rst T W G
  | [], W, _, hw, p, k, h1, h2 => by
    rcases hw p with h | ⟨x, hx, _⟩
    · omega
    · cases hx
  | (z, q, f) :: G, W, hg, hw, p, k, h1, h2 => by
    have hg' : Good T (G.reverse ++ [(z, q, f)]) := by rw [← List.reverse_cons]; exact hg
    unfold rst
    by_cases h : f = (W q).1 ∧ T z < (W q).2
    · rw [if_pos h]
      by_cases hk : p = q ∧ k = f
      · exact ⟨z, by rw [hk.1, hk.2]; exact List.mem_cons_self⟩
      · obtain ⟨x, hx⟩ := rst_all G (wput W q ((W q).1 - 1, T z)) (good_front hg') (fun r => by
          unfold wput
          by_cases hr : r = q
          · rw [if_pos hr]
            rcases good_pred hg' (F1 := G.reverse) (F2 := []) rfl with e | ⟨y, hy, hty⟩
            · exact .inl (by show (W q).1 - 1 = 0; rw [← h.1]; exact e)
            · exact .inr ⟨y, by rw [hr]; show (y, q, (W q).1 - 1) ∈ G; rw [← h.1]; exact List.mem_reverse.mp hy, hty⟩
          · rw [if_neg hr]
            rcases hw r with e | ⟨y, hy, hty⟩
            · exact .inl e
            · refine .inr ⟨y, ?_, hty⟩
              rcases List.mem_cons.mp hy with e | hy
              · injection e with _ e
                injection e with e _
                exact absurd e hr
              · exact hy) p k h1 (by
          unfold wput
          by_cases hr : p = q
          · rw [if_pos hr]
            show k ≤ (W q).1 - 1
            have : k ≠ f := fun e => hk ⟨hr, e⟩
            rw [hr] at h2
            omega
          · rw [if_neg hr]; exact h2)
        exact ⟨x, List.mem_cons_of_mem _ hx⟩
    · rw [if_neg h]
      refine rst_all G W (good_front hg') (fun r => ?_) p k h1 h2
      rcases hw r with e | ⟨y, hy, hty⟩
      · exact .inl e
      · refine .inr ⟨y, ?_, hty⟩
        rcases List.mem_cons.mp hy with e | hy
        · injection e with e1 e
          injection e with e2 e3
          exact absurd ⟨by rw [← e2, e3], by rw [← e1, ← e2]; exact hty⟩ h
        · exact hy
end
end K76
/-! text M6 -/
/-! M6: the rest of two woods, its number -/
set_option linter.all false
set_option autoImplicit false
namespace K76
open Wd
section
variable {α : Type} [DecidableEq α]

theorem pair_idx {m : List α} (hn : m.Nodup) : m.Pairwise fun x y => m.idxOf x < m.idxOf y := by
  rw [List.pairwise_iff_getElem]
  intro i j hi hj hij
  rw [List.Nodup.idxOf_getElem hn i hi, List.Nodup.idxOf_getElem hn j hj]
  exact hij
theorem pair_of_sub {l m : List α} (h : l.Sublist m) (hn : m.Nodup) : l.Pairwise fun x y => m.idxOf x < m.idxOf y := (pair_idx hn).sublist h
theorem idx_inj {m : List α} {x y : α} (hx : x ∈ m) (h : m.idxOf x = m.idxOf y) (hy : y ∈ m) : x = y := by
  have i1 := List.idxOf_lt_length_of_mem hx
  have i2 := List.idxOf_lt_length_of_mem hy
  have e1 : m[m.idxOf x] = x := List.getElem_idxOf i1
  have e2 : m[m.idxOf y] = y := List.getElem_idxOf i2
  rw [← e1, ← e2]
  exact getElem_congr rfl h i1
theorem nodup_rev {β : Type} {l : List β} : l.reverse.Nodup ↔ l.Nodup := (List.reverse_perm l).nodup_iff
/-- two of a list of unlike ones: the one ahead of the other is told by the places in a longer list -/
theorem idx_split {l m : List α} (h : l.Sublist m) (hn : m.Nodup) {x y : α} (hx : x ∈ l) {l1 l2 : List α} (e : l = l1 ++ y :: l2) (hi : m.idxOf x < m.idxOf y) : x ∈ l1 := by
  have p := pair_of_sub h hn
  rw [e] at p hx
  rcases List.mem_append.mp hx with z | z
  · exact z
  · rcases List.mem_cons.mp z with z | z
    · rw [z] at hi; omega
    · have p2 := (List.pairwise_append.mp p).2.1
      have := (List.pairwise_cons.mp p2).1 x z
      omega
theorem idx_sub {l m : List α} (h : l.Sublist m) (hn : m.Nodup) {x y : α} (hx : x ∈ l) (hy : y ∈ l) : l.idxOf x < l.idxOf y ↔ m.idxOf x < m.idxOf y := by
  have key : ∀ {x y : α}, x ∈ l → y ∈ l → l.idxOf x < l.idxOf y → m.idxOf x < m.idxOf y := by
    intro x y hx hy hlt
    have p := List.pairwise_iff_getElem.mp (pair_of_sub h hn)
    have i1 := List.idxOf_lt_length_of_mem hx
    have i2 := List.idxOf_lt_length_of_mem hy
    have z := p (l.idxOf x) (l.idxOf y) i1 i2 hlt
    rw [List.getElem_idxOf, List.getElem_idxOf] at z
    exact z
  constructor
  · exact key hx hy
  · intro hlt
    rcases Nat.lt_trichotomy (l.idxOf x) (l.idxOf y) with z | z | z
    · exact z
    · have := idx_inj hx z hy
      rw [this] at hlt; omega
    · have := key hy hx z
      omega

/-- the names with one parent in both woods, in the order of the first -/
def stayL (v w : Wd α) : List (α × Option α) := (prs none v).filter fun e => decide (e ∈ prs none w)
def posn (w : Wd α) (x : α) : Nat := (nms w).idxOf x
def lensF (v w : Wd α) : List (Tri α) := lensA (posn w) [] (stayL v w)
def mxF (F : List (Tri α)) (p : Option α) : Nat := bst (fun _ => 0) 1 (ofP F p)
def W0 (v w : Wd α) : Wn α := fun p => (mxF (lensF v w) p, (nms w).length)
def restF (v w : Wd α) : List (Tri α) := rst (posn w) (W0 v w) (lensF v w).reverse
def restN (v w : Wd α) : List α := (restF v w).map (·.1)

section
variable {v w : Wd α}
theorem good_F : Good (posn w) (lensF v w) := good_lens _ _ (by intro F1 x p f F2 e; simp at e)
theorem F_map : (lensF v w).map (fun e => (e.1, e.2.1)) = stayL v w := by unfold lensF; rw [lens_map]; rfl
theorem stay_mem {x : α} {p : Option α} : (x, p) ∈ stayL v w ↔ (x, p) ∈ prs none v ∧ (x, p) ∈ prs none w := by
  unfold stayL; rw [List.mem_filter, decide_eq_true_eq]
theorem stay_symm {x : α} {p : Option α} : (x, p) ∈ stayL v w ↔ (x, p) ∈ stayL w v := by rw [stay_mem, stay_mem, and_comm]
theorem F_stay {x : α} {p : Option α} {f : Nat} (h : (x, p, f) ∈ lensF v w) : (x, p) ∈ stayL v w := by
  rw [← F_map]; exact List.mem_map_of_mem (f := fun e : Tri α => (e.1, e.2.1)) h
theorem stay_F {x : α} {p : Option α} (h : (x, p) ∈ stayL v w) : ∃ f, (x, p, f) ∈ lensF v w := by
  rw [← F_map] at h
  obtain ⟨⟨y, q, f⟩, h1, h2⟩ := List.mem_map.mp h
  have h2' : (y, q) = (x, p) := h2
  injection h2' with e1 e2
  exact ⟨f, by rw [← e1, ← e2]; exact h1⟩
theorem F_names : (lensF v w).map (·.1) = (stayL v w).map (·.1) := by
  rw [← F_map, List.map_map]; rfl
theorem F_sub : ((lensF v w).map (·.1)).Sublist (nms v) := by
  rw [F_names, ← prs_nms v none]
  exact List.Sublist.map _ List.filter_sublist
theorem R_sub : (restF v w).reverse.Sublist (lensF v w) := by
  have := (rst_sub (T := posn w) (lensF v w).reverse (W0 v w)).reverse
  rw [List.reverse_reverse] at this
  exact this
theorem R_F {e : Tri α} (h : e ∈ restF v w) : e ∈ lensF v w := R_sub.subset (List.mem_reverse.mpr h)
theorem RN_sub : (restN v w).reverse.Sublist (nms v) := by
  unfold restN
  rw [← List.map_reverse]
  exact (List.Sublist.map _ R_sub).trans F_sub
theorem RN_nodup (hv : (nms v).Nodup) : (restN v w).Nodup := by
  have := hv.sublist (RN_sub (v := v) (w := w))
  exact nodup_rev.mp this
theorem RN_mem {x : α} (h : x ∈ restN v w) : ∃ p f, (x, p, f) ∈ restF v w ∧ (x, p) ∈ prs none v ∧ (x, p) ∈ prs none w := by
  obtain ⟨⟨y, p, f⟩, h1, h2⟩ := List.mem_map.mp h
  have h2' : y = x := h2
  subst h2'
  have h3 := stay_mem.mp (F_stay (R_F h1))
  exact ⟨p, f, h1, h3.1, h3.2⟩
theorem R_cover {x : α} {p : Option α} {f : Nat} (h : (x, p, f) ∈ lensF v w) (hp : ∀ x ∈ nms v, x ∈ nms w) : ∃ y, (y, p, f) ∈ restF v w := by
  have mx := bst_fold (fun _ : α => 0) 1 (ofP (lensF v w) p) 0
  refine rst_all (T := posn w) (lensF v w).reverse (W0 v w) (by rw [List.reverse_reverse]; exact good_F) (fun q => ?_) p f (good_pos good_F h) ?_
  · have mq := bst_fold (fun _ : α => 0) 1 (ofP (lensF v w) q) 0
    rcases mq.2.2 with e | ⟨⟨y, g⟩, hy, _, hg⟩
    · exact .inl e
    · refine .inr ⟨y, ?_, ?_⟩
      · have hg' : g = mxF (lensF v w) q := hg
        have z := mem_ofP.mp hy
        rw [hg'] at z
        exact List.mem_reverse.mpr z
      · have z := mem_ofP.mp hy
        have z2 : y ∈ nms v := F_sub.subset (List.mem_map_of_mem (f := (·.1)) z)
        exact List.idxOf_lt_length_of_mem (hp y z2)
  · exact mx.2.1 (x, f) (mem_ofP.mpr h) (by decide)
/-- two of one parent and one length stand the other way round -/
theorem F_right (hv : (nms v).Nodup) (hp : ∀ x ∈ nms v, x ∈ nms w) {F1 F2 : List (Tri α)} {x y : α} {p : Option α} {f : Nat} (e : lensF v w = F1 ++ (x, p, f) :: F2) (hy : (y, p, f) ∈ F1) : posn w x < posn w y := by
  rcases Nat.lt_trichotomy (posn w x) (posn w y) with z | z | z
  · exact z
  · have n : ((lensF v w).map (·.1)).Nodup := hv.sublist F_sub
    have xv : x ∈ nms v := F_sub.subset (List.mem_map_of_mem (f := (·.1)) (a := (x, p, f)) (by rw [e]; simp))
    have yv : y ∈ nms v := F_sub.subset (List.mem_map_of_mem (f := (·.1)) (a := (y, p, f)) (by rw [e]; exact List.mem_append_left _ hy))
    have exy := idx_inj (hp x xv) z (hp y yv)
    rw [e, List.map_append, List.map_cons] at n
    exact absurd rfl ((List.nodup_append.mp n).2.2 y (List.mem_map_of_mem (f := (·.1)) hy) y (by rw [exy]; exact List.mem_cons_self))
  · have := good_lt good_F e hy z
    omega
theorem R_order : (restF v w).reverse.Pairwise fun x y => x.2.1 = y.2.1 → posn w x.1 < posn w y.1 := by
  rw [List.pairwise_reverse]
  exact (rst_order (T := posn w) (lensF v w).reverse (W0 v w)).1.imp fun h e => h e.symm
theorem rest_kids (hv : (nms v).Nodup) (hw : (nms w).Nodup) (q : Option α) :
    (kidsL (prs none v) q).filter (fun x => decide (x ∈ restN v w)) = (kidsL (prs none w) q).filter (fun x => decide (x ∈ restN v w)) := by
  have nv : ((prs none v).map (·.1)).Nodup := by rw [prs_nms]; exact hv
  have nw : ((prs none w).map (·.1)).Nodup := by rw [prs_nms]; exact hw
  have mem : ∀ x, x ∈ (kidsL (prs none v) q).filter (fun x => decide (x ∈ restN v w)) ↔ x ∈ ((restF v w).reverse.filter fun e => decide (e.2.1 = q)).map (·.1) := by
    intro x
    rw [List.mem_filter, decide_eq_true_eq, mem_kidsL, List.mem_map]
    constructor
    · rintro ⟨h1, h2⟩
      obtain ⟨p, f, h3, h4, _⟩ := RN_mem h2
      have e := nodup_snd nv h1 h4
      exact ⟨(x, p, f), List.mem_filter.mpr ⟨List.mem_reverse.mpr h3, decide_eq_true e.symm⟩, rfl⟩
    · rintro ⟨⟨y, p, f⟩, h1, h2⟩
      have h2' : y = x := h2
      subst h2'
      obtain ⟨h3, h4⟩ := List.mem_filter.mp h1
      have h4' : p = q := of_decide_eq_true h4
      subst h4'
      have h5 := List.mem_reverse.mp h3
      exact ⟨(stay_mem.mp (F_stay (R_F h5))).1, List.mem_map_of_mem (f := (·.1)) h5⟩
  have s1 : ((kidsL (prs none v) q).filter (fun x => decide (x ∈ restN v w))).Sublist (nms v) := by
    refine List.filter_sublist.trans ?_
    rw [← prs_nms v none]; exact kidsL_sub _ _
  have s2 : (((restF v w).reverse.filter fun e => decide (e.2.1 = q)).map (·.1)).Sublist (nms v) := by
    refine (List.Sublist.map _ List.filter_sublist).trans ?_
    exact (List.Sublist.map _ R_sub).trans F_sub
  have e1 := sub_eq s1 s2 hv mem
  refine sorted_eq (T := posn w) ?_ ?_ fun x => ?_
  · rw [e1, List.pairwise_map]
    have p1 := (R_order (v := v) (w := w)).sublist (List.filter_sublist (p := fun e => decide (e.2.1 = q)))
    refine List.Pairwise.imp_of_mem ?_ p1
    intro a b ha hb h
    have h1 : a.2.1 = q := of_decide_eq_true (List.mem_filter.mp ha).2
    have h2 : b.2.1 = q := of_decide_eq_true (List.mem_filter.mp hb).2
    exact h (h1.trans h2.symm)
  · refine pair_of_sub (List.filter_sublist.trans ?_) hw
    rw [← prs_nms w none]; exact kidsL_sub _ _
  · rw [List.mem_filter, List.mem_filter, decide_eq_true_eq, mem_kidsL, mem_kidsL]
    constructor
    · rintro ⟨h1, h2⟩
      obtain ⟨p, f, _, h4, h5⟩ := RN_mem h2
      rw [nodup_snd nv h1 h4]
      exact ⟨h5, h2⟩
    · rintro ⟨h1, h2⟩
      obtain ⟨p, f, _, h4, h5⟩ := RN_mem h2
      rw [nodup_snd nw h1 h5]
      exact ⟨h4, h2⟩
/-- the labels' pairs are as many as the rest -/
theorem rest_count (hv : (nms v).Nodup) (hp : ∀ x ∈ nms v, x ∈ nms w) {D : List (Option α × Nat)} (hn : D.Nodup) (hD : ∀ z, z ∈ D ↔ z ∈ (lensF v w).map (·.2)) : D.length = (restN v w).length := by
  have l1 : (restN v w).length = ((restF v w).map (·.2)).length := by unfold restN; rw [List.length_map, List.length_map]
  rw [l1]
  have nR : ((restF v w).map (·.2)).Nodup := by
    have p1 := (R_order (v := v) (w := w))
    have nd : ((restF v w).reverse.map (·.2)).Nodup := by
      unfold List.Nodup
      rw [List.pairwise_map]
      rw [List.pairwise_iff_forall_sublist] at p1 ⊢
      intro a b hab heq
      obtain ⟨x, p, f⟩ := a
      obtain ⟨y, q, g⟩ := b
      have heq' : (p, f) = (q, g) := heq
      injection heq' with e1 e2
      subst e1 e2
      have lt : posn w x < posn w y := p1 hab rfl
      have sF : [(x, p, f), (y, p, f)].Sublist (lensF v w) := hab.trans R_sub
      obtain ⟨r1, r2, er, h1, h2⟩ := List.cons_sublist_iff.mp sF
      have h2' := List.singleton_sublist.mp h2
      obtain ⟨t1, t2, et⟩ := List.append_of_mem h2'
      have := F_right hv hp (F1 := r1 ++ t1) (F2 := t2) (x := y) (y := x) (p := p) (f := f) (by rw [er, et]; simp) (List.mem_append_left _ h1)
      omega
    rw [List.map_reverse] at nd
    exact nodup_rev.mp nd
  have h1 : D.length ≤ ((restF v w).map (·.2)).length := by
    refine len_le_of_sub _ _ hn fun z hz => ?_
    obtain ⟨⟨x, p, f⟩, h3, h4⟩ := List.mem_map.mp ((hD z).mp hz)
    obtain ⟨y, hy⟩ := R_cover h3 hp
    rw [← h4]
    exact List.mem_map_of_mem (f := (·.2)) hy
  have h2 : ((restF v w).map (·.2)).length ≤ D.length := by
    refine len_le_of_sub _ _ nR fun z hz => ?_
    obtain ⟨e, h3, h4⟩ := List.mem_map.mp hz
    rw [hD z, ← h4]
    exact List.mem_map_of_mem (f := (·.2)) (R_F h3)
  omega
theorem rest_le (hv : (nms v).Nodup) (hw : (nms w).Nodup) (hp : ∀ x, x ∈ nms v ↔ x ∈ nms w) : (restN w v).length ≤ (restN v w).length := by
  -- the triples of v, w for the rest of w, v
  have tri : ∀ (l : List (Tri α)), (∀ e ∈ l, e ∈ restF w v) → ∃ X : List (Tri α), X.map (fun e => (e.1, e.2.1)) = l.map (fun e => (e.1, e.2.1)) ∧ ∀ e ∈ X, e ∈ lensF v w := by
    intro l
    induction l with
    | nil => intro _; exact ⟨[], rfl, fun _ h => (nomatch h)⟩
    | cons e l ih =>
      intro h
      obtain ⟨X, h1, h2⟩ := ih fun e he => h e (List.mem_cons_of_mem _ he)
      obtain ⟨x, p, f⟩ := e
      obtain ⟨g, hg⟩ := stay_F (stay_symm.mp (F_stay (R_F (h (x, p, f) List.mem_cons_self))))
      refine ⟨(x, p, g) :: X, by rw [List.map_cons, List.map_cons, h1], fun e he => ?_⟩
      rcases List.mem_cons.mp he with q | he
      · rw [q]; exact hg
      · exact h2 e he
  obtain ⟨X, h1, h2⟩ := tri (restF w v).reverse fun e he => List.mem_reverse.mp he
  have lX : X.length = (restN w v).length := by
    have := congrArg List.length h1
    rw [List.length_map, List.length_map, List.length_reverse] at this
    unfold restN
    rw [List.length_map]
    exact this
  have nX : (X.map (·.2)).Nodup := by
    unfold List.Nodup
    rw [List.pairwise_map, List.pairwise_iff_forall_sublist]
    intro a b hab heq
    obtain ⟨x, p, f⟩ := a
    obtain ⟨y, q, g⟩ := b
    have heq' : (p, f) = (q, g) := heq
    injection heq' with e1 e2
    subst e1 e2
    have s1 : [(x, p), (y, p)].Sublist ((restF w v).reverse.map (fun e => (e.1, e.2.1))) := by
      rw [← h1]
      exact List.Sublist.map (fun e : Tri α => (e.1, e.2.1)) hab
    have o1 : ((restF w v).reverse.map (fun e => (e.1, e.2.1))).Pairwise fun x y => x.2 = y.2 → posn v x.1 < posn v y.1 := by
      rw [List.pairwise_map]; exact R_order
    have lt1 : posn v x < posn v y := (List.pairwise_iff_forall_sublist.mp o1) s1 rfl
    have s2 : [x, y].Sublist (nms w) := by
      have z := List.Sublist.map (fun e : α × Option α => e.1) s1
      rw [List.map_map] at z
      exact z.trans (by rw [show (restF w v).reverse.map ((fun e : α × Option α => e.1) ∘ fun e => (e.1, e.2.1)) = (restN w v).reverse by unfold restN; rw [← List.map_reverse]; rfl]; exact RN_sub)
    have lt2 : posn w x < posn w y := (List.pairwise_iff_forall_sublist.mp (pair_idx hw)) s2
    have hx := h2 (x, p, f) (hab.subset (by simp))
    have hy := h2 (y, p, f) (hab.subset (by simp))
    obtain ⟨F1, F2, e⟩ := List.append_of_mem hy
    have em : (lensF v w).map (·.1) = F1.map (·.1) ++ y :: F2.map (·.1) := by rw [e]; simp
    have hx1 : x ∈ F1.map (·.1) := idx_split F_sub hv (List.mem_map_of_mem (f := (·.1)) hx) em lt1
    obtain ⟨⟨x', p', f'⟩, hx2, hx3⟩ := List.mem_map.mp hx1
    have hx3' : x' = x := hx3
    subst hx3'
    have nF : ((lensF v w).map (·.1)).Nodup := hv.sublist F_sub
    have same : (x', p', f') = (x', p, f) := by
      have m1 : (x', p', f') ∈ lensF v w := by rw [e]; exact List.mem_append_left _ hx2
      have gen : ∀ (l : List (Tri α)), (l.map (·.1)).Nodup → ∀ a b : Tri α, a ∈ l → b ∈ l → a.1 = b.1 → a = b := by
        intro l
        induction l with
        | nil => intro _ a b ha; cases ha
        | cons c l ih =>
          intro hn a b ha hb hab
          have n := List.nodup_cons.mp (show (c.1 :: l.map (·.1)).Nodup from hn)
          rcases List.mem_cons.mp ha with ha | ha
          · rcases List.mem_cons.mp hb with hb | hb
            · rw [ha, hb]
            · exact absurd (List.mem_map_of_mem (f := (·.1)) hb) (by rw [← hab, ha]; exact n.1)
          · rcases List.mem_cons.mp hb with hb | hb
            · exact absurd (List.mem_map_of_mem (f := (·.1)) ha) (by rw [hab, hb]; exact n.1)
            · exact ih n.2 a b ha hb hab
      exact gen _ nF _ _ m1 hx rfl
    rw [same] at hx2
    have := good_lt good_F e hx2 lt2
    omega
  have l1 : (restN v w).length = ((restF v w).map (·.2)).length := by unfold restN; rw [List.length_map, List.length_map]
  rw [← lX, l1, ← List.length_map (f := fun e : Tri α => e.2)]
  refine len_le_of_sub _ _ nX fun z hz => ?_
  obtain ⟨⟨x, p, f⟩, h3, h4⟩ := List.mem_map.mp hz
  obtain ⟨y, hy⟩ := R_cover (h2 _ h3) fun x h => (hp x).mp h
  rw [← h4]
  exact List.mem_map_of_mem (f := (·.2)) hy
theorem rest_len (hv : (nms v).Nodup) (hw : (nms w).Nodup) (hp : ∀ x, x ∈ nms v ↔ x ∈ nms w) : (restN w v).length = (restN v w).length :=
  Nat.le_antisymm (rest_le hv hw hp) (rest_le hw hv fun x => (hp x).symm)
end
end
end K76
/-! text M7 -/
set_option linter.all false
namespace K76
open Wd
section
variable {α : Type} [DecidableEq α]
theorem agree_app {C : α → List α} : ∀ (a b : Wd α), Agree C (app a b) ↔ Agree C a ∧ Agree C b
  | .nil, b => by simp [app, Agree]
  | .cons n i r, b => by
    simp only [app, Agree, agree_app r b]
    constructor
    · rintro ⟨h1, h2, h3, h4⟩; exact ⟨⟨h1, h2, h3⟩, h4⟩
    · rintro ⟨⟨h1, h2, h3⟩, h4⟩; exact ⟨h1, h2, h3, h4⟩
theorem agree_congr {C C' : α → List α} : ∀ (x : Wd α), (∀ n ∈ nms x, C' n = C n) → Agree C x → Agree C' x
  | .nil, _, _ => trivial
  | .cons n i r, h, ⟨h1, h2, h3⟩ => by
    simp only [nms, List.mem_cons, List.mem_append] at h
    exact ⟨by rw [h n (.inl rfl)]; exact h1, agree_congr i (fun m hm => h m (.inr (.inl hm))) h2, agree_congr r (fun m hm => h m (.inr (.inr hm))) h3⟩
theorem split_at : ∀ (x : Wd α) (k : Nat), k ≤ (roots x).length → ∃ a b, x = app a b ∧ roots a = (roots x).take k ∧ roots b = (roots x).drop k
  | x, 0, _ => ⟨.nil, x, rfl, by simp [roots], by simp⟩
  | .nil, k + 1, h => by simp [roots] at h
  | .cons n i r, k + 1, h => by
    obtain ⟨a, b, e, h1, h2⟩ := split_at r k (by simpa [roots] using h)
    exact ⟨.cons n i a, b, by rw [e]; rfl, by simp [roots, h1], by simp [roots, h2]⟩
/-- a new node n takes m children from place k on -/
def slot (L : List α) (n : α) (k m : Nat) : List α := L.take k ++ n :: L.drop (k + m)
def took (L : List α) (k m : Nat) : List α := (L.drop k).take m
theorem grab_here {C C' : α → List α} {x : Wd α} {n : α} {k m : Nat} (h : k + m ≤ (roots x).length) (ag : Agree C x) (hn : C' n = took (roots x) k m) (hC : ∀ y ∈ nms x, C' y = C y) :
    ∃ x', Agree C' x' ∧ roots x' = slot (roots x) n k m ∧ (nms x').Perm (n :: nms x) := by
  obtain ⟨a, b, rfl, h1, h2⟩ := split_at x k (by omega)
  obtain ⟨c, d, rfl, h3, h4⟩ := split_at b m (by rw [h2, List.length_drop]; omega)
  rw [agree_app, agree_app] at ag
  obtain ⟨g1, g2, g3⟩ := ag
  simp only [nms_app, List.mem_append] at hC
  refine ⟨app a (.cons n c d), ?_, ?_, ?_⟩
  · rw [agree_app]
    refine ⟨agree_congr a (fun y hy => hC y (.inl hy)) g1, ?_, agree_congr c (fun y hy => hC y (.inr (.inl hy))) g2, agree_congr d (fun y hy => hC y (.inr (.inr hy))) g3⟩
    rw [hn, h3, h2]
    rfl
  · rw [roots_app, h1]
    show _ ++ n :: roots d = _
    rw [h4, h2, List.drop_drop]
    rfl
  · rw [nms_app, nms_app, nms_app]
    show (nms a ++ n :: (nms c ++ nms d)).Perm _
    exact List.perm_middle
theorem grab_in {C C' : α → List α} {n o : α} {k m : Nat} (ho : k + m ≤ (C o).length) (hn : C' n = took (C o) k m) (hCo : C' o = slot (C o) n k m) (hC : ∀ y, y ≠ n → y ≠ o → C' y = C y) :
    ∀ (x : Wd α), Agree C x → o ∈ nms x → (nms x).Nodup → n ∉ nms x → ∃ x', Agree C' x' ∧ roots x' = roots x ∧ (nms x').Perm (n :: nms x)
  | .nil, _, h, _, _ => by simp [nms] at h
  | .cons q i r, ⟨g1, g2, g3⟩, hin, nd, hnew => by
    simp only [nms, List.mem_cons, List.mem_append, not_or] at hin hnew
    simp only [nms, List.nodup_cons, List.mem_append, not_or, List.nodup_append] at nd
    obtain ⟨⟨nq1, nq2⟩, ndi, ndr, ndis⟩ := nd
    by_cases e : q = o
    · subst e
      have hi : ∀ y ∈ nms i, C' y = C y := fun y hy => hC y (fun z => hnew.2.1 (z ▸ hy)) (fun z => nq1 (z ▸ hy))
      have hr : ∀ y ∈ nms r, C' y = C y := fun y hy => hC y (fun z => hnew.2.2 (z ▸ hy)) (fun z => nq2 (z ▸ hy))
      rw [g1] at ho hn hCo
      obtain ⟨i', a1, a2, a3⟩ := grab_here (C' := C') ho g2 hn hi
      refine ⟨.cons q i' r, ⟨by rw [hCo, a2], a1, agree_congr r hr g3⟩, rfl, ?_⟩
      show (q :: (nms i' ++ nms r)).Perm (n :: q :: (nms i ++ nms r))
      exact ((a3.append_right _).cons q).trans (List.Perm.swap n q _)
    · rcases hin with h | h | h
      · exact absurd h.symm e
      · have hr : ∀ y ∈ nms r, C' y = C y := fun y hy => hC y (fun z => hnew.2.2 (z ▸ hy)) (fun z => ndis o h y hy z.symm)
        obtain ⟨i', a1, a2, a3⟩ := grab_in ho hn hCo hC i g2 h ndi hnew.2.1
        refine ⟨.cons q i' r, ⟨by rw [hC q (fun z => hnew.1 z.symm) e, g1, a2], a1, agree_congr r hr g3⟩, rfl, ?_⟩
        show (q :: (nms i' ++ nms r)).Perm (n :: q :: (nms i ++ nms r))
        exact ((a3.append_right _).cons q).trans (List.Perm.swap n q _)
      · have hi : ∀ y ∈ nms i, C' y = C y := fun y hy => hC y (fun z => hnew.2.1 (z ▸ hy)) (fun z => ndis y hy o h z)
        obtain ⟨r', a1, a2, a3⟩ := grab_in ho hn hCo hC r g3 h ndr hnew.2.2
        refine ⟨.cons q i r', ⟨by rw [hC q (fun z => hnew.1 z.symm) e, g1], agree_congr i hi g2, a1⟩, by simp [roots, a2], ?_⟩
        show (q :: (nms i ++ nms r')).Perm (n :: q :: (nms i ++ nms r))
        have h1 : (nms i ++ nms r').Perm (n :: (nms i ++ nms r)) := (a3.append_left _).trans List.perm_middle
        exact (h1.cons q).trans (List.Perm.swap n q _)
/-- kids lists over a top word t -/
def Kin (C : α → List α) (t : α) (x : Wd α) : Prop := Agree C x ∧ C t = roots x
theorem grab {C C' : α → List α} {t n o : α} {k m : Nat} {x : Wd α} (g : Kin C t x) (ht : t ∉ nms x) (ho : o = t ∨ o ∈ nms x) (nd : (nms x).Nodup) (hnew : n ∉ nms x) (hnt : n ≠ t)
    (hl : k + m ≤ (C o).length) (hn : C' n = took (C o) k m) (hCo : C' o = slot (C o) n k m) (hC : ∀ y, y ≠ n → y ≠ o → C' y = C y) : ∃ x', Kin C' t x' ∧ (nms x').Perm (n :: nms x) := by
  obtain ⟨g1, g2⟩ := g
  by_cases e : o = t
  · subst e
    rw [g2] at hl hn hCo
    obtain ⟨x', a1, a2, a3⟩ := grab_here (C' := C') hl g1 hn fun y hy => hC y (fun z => hnew (z ▸ hy)) (fun z => ht (z ▸ hy))
    exact ⟨x', ⟨a1, by rw [hCo, a2]⟩, a3⟩
  · have ho : o ∈ nms x := ho.resolve_left e
    obtain ⟨x', a1, a2, a3⟩ := grab_in hl hn hCo hC x g1 ho nd hnew
    exact ⟨x', ⟨a1, by rw [hC t (Ne.symm hnt) (Ne.symm e), g2, a2]⟩, a3⟩
/-- children in another order -/
theorem reorder {C : α → List α} {l L : List α} (h : l.Perm L) : ∀ (x : Wd α), roots x = l → Agree C x → ∃ x', Agree C x' ∧ roots x' = L ∧ (nms x').Perm (nms x) := by
  induction h with
  | nil => intro x e a; exact ⟨x, a, e, List.Perm.refl _⟩
  | @cons y l1 l2 _ ih =>
    intro x e a
    cases x with
    | nil => cases e
    | cons n i r =>
      injection e with e1 e2
      obtain ⟨r', b1, b2, b3⟩ := ih r e2 a.2.2
      exact ⟨.cons n i r', ⟨a.1, a.2.1, b1⟩, by rw [roots, b2, e1], (b3.append_left _).cons n⟩
  | swap y z l1 =>
    intro x e a
    match x, e, a with
    | .cons n i (.cons m j r), e, a =>
      injection e with e1 e2
      injection e2 with e2 e3
      refine ⟨.cons m j (.cons n i r), ⟨a.2.2.1, a.2.2.2.1, a.1, a.2.1, a.2.2.2.2⟩, by rw [roots, roots, e1, e2, e3], ?_⟩
      show (m :: (nms j ++ n :: (nms i ++ nms r))).Perm (n :: (nms i ++ m :: (nms j ++ nms r)))
      have h1 : (m :: (nms j ++ n :: (nms i ++ nms r))).Perm (m :: n :: (nms j ++ (nms i ++ nms r))) := List.perm_middle.cons m
      have h2 : (n :: (nms i ++ m :: (nms j ++ nms r))).Perm (n :: m :: (nms i ++ (nms j ++ nms r))) := List.perm_middle.cons n
      have h3 : (nms j ++ (nms i ++ nms r)).Perm (nms i ++ (nms j ++ nms r)) := by
        rw [← List.append_assoc, ← List.append_assoc]
        exact List.perm_append_comm.append_right _
      exact h1.trans ((List.Perm.swap n m _).trans (((h3.cons m).cons n).trans h2.symm))
  | trans _ _ ih1 ih2 =>
    intro x e a
    obtain ⟨x1, a1, a2, a3⟩ := ih1 x e a
    obtain ⟨x2, b1, b2, b3⟩ := ih2 x1 a2 a1
    exact ⟨x2, b1, b2, b3.trans a3⟩
theorem mixed_in {C C' : α → List α} : ∀ (x : Wd α), Agree C x → (∀ n ∈ nms x, (C n).Perm (C' n)) → ∃ x', Agree C' x' ∧ roots x' = roots x ∧ (nms x').Perm (nms x)
  | .nil, _, _ => ⟨.nil, trivial, rfl, List.Perm.refl _⟩
  | .cons n i r, ⟨g1, g2, g3⟩, h => by
    simp only [nms, List.mem_cons, List.mem_append] at h
    obtain ⟨i1, a1, a2, a3⟩ := mixed_in i g2 fun m hm => h m (.inr (.inl hm))
    obtain ⟨r1, b1, b2, b3⟩ := mixed_in r g3 fun m hm => h m (.inr (.inr hm))
    have hp : (roots i1).Perm (C' n) := by rw [a2, ← g1]; exact h n (.inl rfl)
    obtain ⟨i2, c1, c2, c3⟩ := reorder hp i1 rfl a1
    exact ⟨.cons n i2 r1, ⟨c2.symm, c1, b1⟩, by rw [roots, roots, b2], ((c3.trans a3).append b3).cons n⟩
theorem mixed {C C' : α → List α} {t : α} {x : Wd α} (g : Kin C t x) (h : ∀ n, n = t ∨ n ∈ nms x → (C n).Perm (C' n)) : ∃ x', Kin C' t x' ∧ (nms x').Perm (nms x) := by
  obtain ⟨x1, a1, a2, a3⟩ := mixed_in x g.1 fun n hn => h n (.inr hn)
  have hp : (roots x1).Perm (C' t) := by rw [a2, ← g.2]; exact h t (.inl rfl)
  obtain ⟨x2, b1, b2, b3⟩ := reorder hp x1 rfl a1
  exact ⟨x2, ⟨b1, b2.symm⟩, b3.trans a3⟩
end
end K76
namespace K76
open Wd
theorem agree_len {α : Type} [DecidableEq α] {C : α → List α} : ∀ {x : Wd α} {n : α}, Agree C x → n ∈ nms x → (C n).length ≤ (nms x).length
  | .nil, _, _, h => by simp [nms] at h
  | .cons m i r, n, ⟨g1, g2, g3⟩, h => by
    simp only [nms, List.mem_cons, List.mem_append] at h
    simp only [nms, List.length_cons, List.length_append]
    rcases h with h | h | h
    · subst h; rw [g1]; have := roots_len i; omega
    · have := agree_len g2 h; omega
    · have := agree_len g3 h; omega
end K76
/-! text R1a -/
set_option Elab.async false
set_option linter.all false
set_option maxRecDepth 100000
set_option maxHeartbeats 4000000
namespace K76
open PySem PySem.Spec PyProof.Rows L2
/-! ### tuples whose one object is known to bear no dict: the rows of ends -/
def TX (H : Hp) (a : Addr) (xs : List V) : Prop := ∃ o : Obj, o.dict = none ∧ H a = some (.frz o (.tup xs))
theorem TX.sq {K : PySem.W.Frag} {H : Hp} {a : Addr} {xs : List V} (h : TX H a xs) : SqT K H a xs := let ⟨o, _, e⟩ := h; .inl (.inr ⟨o, e⟩)
theorem TX.same {H H' : Hp} {a : Addr} {xs : List V} (h : TX H a xs) (s : Same H H') : TX H' a xs := let ⟨o, d, e⟩ := h; ⟨o, d, s _ _ e⟩
theorem same_new {H : Hp} {p : Addr} {o : HO} (h : H p = none) : Same H (upd H p o) := fun b u e => (upd_ne (ne_of_none e h)).trans e
theorem same_mut {H H' : Hp} {p : Addr} {o : HO} (s : Same H H') (h : H p = none) : Same H (upd H' p o) := fun b u e => (upd_ne (ne_of_none e h)).trans (s b u e)
/-- a new one -/
def NewX (H : Hp) (xs : List V) (Q : VK) : Prop := ∀ (p : Addr) (H2 : Hp), H p = none → Same H H2 → TX H2 p xs → Q (.ref p) H2
section
variable {X : Cx} {pins : List (Addr × Obj)} {σ : L2.St} {H : Hp} {s : Shared}
theorem newX_end {xs : List V} {its : List Value} {Q : VK} {h : Heap} {tk : Nat} (I : Inv X pins σ H { s with heap := h, toks := tk }) (r : Vals xs its) (z : xs.length ≤ sizeLine) (q : NewX H xs Q) :
    EP X pins σ Q (.ref h.objs.size) { s with heap := h.push { cls := .type "tuple", data := .seq its.toArray }, toks := tk } := by
  have hf : H h.objs.size = none := I.hok.fresh (Nat.le_refl _)
  have J := I.laid (t' := tk) (o := .frz { cls := .type "tuple", data := .seq its.toArray } (.tup xs)) (h' := h.push { cls := .type "tuple", data := .seq its.toArray }) (fun b u e => Heap.get?_push_of_some _ e) (Nat.le_refl _)
    ⟨Heap.get?_push_size _ rfl, z, its, r, ⟨_, Heap.get?_push_size _ rfl, rfl, _, rfl⟩⟩
  exact ⟨.ref h.objs.size, _, J, rfl, q _ _ hf (same_new hf) ⟨_, rfl, upd_same⟩⟩
theorem newX_end' {xs : List V} {its : List Value} {Q : VK} (I : Inv X pins σ H s) (r : Vals xs its) (z : xs.length ≤ sizeLine) (q : NewX H xs Q) :
    EP X pins σ Q (.ref s.heap.objs.size) { s with heap := s.heap.push { cls := .type "tuple", data := .seq its.toArray } } :=
  newX_end (s := s) (tk := s.toks) I r z q
end
section
variable {X : Cx} {es : List Expr} {pos : Pos}
/-- (a, b, ..) -/
def tTupX (t : TA) : TE := fun σ H Q => t σ H fun xs H1 => xs.length ≤ sizeLine ∧ NewX H1 xs Q
theorem pe_tupX {k : Nat} {t : TA} (h : PA X es t) : PE X (.Tuple es k pos) (tTupX t) := by
  refine ⟨fun pins s σ H Q I hq => ?_⟩
  refine wpAny_Tuple_spliced (thn (h.run pos pins s σ H _ I hq) fun us s1 ⟨ys, H1, I1, rr, zz, qq⟩ => ⟨by rw [← rr.length]; exact zz, ?_⟩)
  exact newX_end' I1 rr zz qq
/-- tuple(a list) -/
def rTupOfX (K : PySem.W.Frag) : List V → Hp → VK → Prop := fun xs H Q => ∃ p ys, xs = [.ref p] ∧ SqL K H p ys ∧ NewX H ys Q
theorem call_tupX : CallR X (.type "tuple") (rTupOfX X.K) := by
  intro pins s σ H xs us Q I rr hh
  obtain ⟨p, ys, rfl, hq, q⟩ := hh
  obtain ⟨u, rfl, rx⟩ := vals1 rr
  cases rx
  obtain ⟨its, r2, pl, hz⟩ := I.list hq
  have hlen := r2.length
  refine call_tuple_list pl.isList (fun h2 kp => ?_) (by simp only [List.size_toArray] <;> omega)
  exact newX_end (s := s) (tk := s.toks) (I.kept (t' := s.toks) kp) r2 hz q
/-- t + u -/
def rCatX : R2 := fun x y H Q => ∃ a b xs ys, x = .ref a ∧ y = .ref b ∧ TX H a xs ∧ TX H b ys ∧ xs.length + ys.length ≤ sizeLine ∧
  ∀ (p : Addr) (H2 : Hp), Same H H2 → TX H2 p (xs ++ ys) → Q (.ref p) H2
theorem op_catX : OpR X (binaryOp .Add) rCatX := by
  intro pins s σ H x y v u Q I rx ry hh
  obtain ⟨a, b, xs, ys, rfl, rfl, ha, hb, hz, q⟩ := hh
  cases rx
  cases ry
  obtain ⟨its, r1, p1, _⟩ := I.tuple (ha.sq (K := X.K))
  obtain ⟨its2, r2, p2, _⟩ := I.tuple (hb.sq (K := X.K))
  by_cases hx : xs = []
  · subst hx
    cases r1
    exact cat_tup0 p1 p2 ⟨.ref b, H, I, rfl, q b H (Same.refl H) hb⟩
  · refine HT.cat_tup p1 p2 (fun z => hx ((Vals.nil_iff r1).mp z)) (fun z => ?_) (fun z => ?_) (by rw [← r1.length, ← r2.length]; exact hz)
    · have e0 := (Vals.nil_iff r2).mp z
      subst e0
      exact ⟨.ref a, H, I, rfl, q a H (Same.refl H) (by rw [List.append_nil]; exact ha)⟩
    · exact newX_end' I (r1.append r2) (by rw [List.length_append]; exact hz) fun p H2 _ sm tx => q p H2 sm tx
/-- t[lo:hi] -/
def rSlX2 : V → Option Int → Option Int → Hp → VK → Prop := fun x lo hi H Q => ∃ a xs, x = .ref a ∧ TX H a xs ∧
  ∀ (p : Addr) (H2 : Hp), Same H H2 → TX H2 p (cutV xs lo hi) → Q (.ref p) H2
theorem sl_tupX : SlR X rSlX2 := by
  intro pins s σ H x v vl vu lo hi sl Q I rx hs pl pu hh
  obtain ⟨a, xs, rfl, hx, q⟩ := hh
  cases rx
  obtain ⟨its, r, ht, hz⟩ := I.tuple (hx.sq (K := X.K))
  have hlen : its.toArray.size = xs.length := by rw [List.size_toArray]; exact r.length.symm
  refine ⟨"tuple", _, PyProof.Rows.slot_tuple_getitem.lookup, ht.typeIs, ?_⟩
  by_cases hw : HT.sIx xs.length 0 lo = 0 ∧ HT.sIx xs.length xs.length hi = xs.length
  · refine getItem_tuple_whole ht hs pl pu (by rw [hlen]; exact hw) ⟨.ref a, H, I, rfl, q a H (Same.refl H) ?_⟩
    have e : cutV xs lo hi = xs := by unfold cutV; rw [hw.1, hw.2]; simp
    rw [e]; exact hx
  · refine HT.getItem_tuple_cut ht hs pl pu (by rw [hlen]; exact hw) ?_ (by rw [hlen]; exact hz)
    have rc : Vals (cutV xs lo hi) ((its.drop (HT.sIx xs.length 0 lo)).take (HT.sIx xs.length xs.length hi - HT.sIx xs.length 0 lo)) := (r.drop _).take _
    rw [hlen]
    exact newX_end' I rc (Nat.le_trans (cutV_length xs lo hi) hz) fun p H2 _ sm tx => q p H2 sm tx
/-- t.index(e) -/
def tTIdx (r : V → List V → Hp → VK → Prop) (to te : TE) : TE := fun σ H Q => to σ H fun x H1 => (∃ a xs, x = .ref a ∧ TX H1 a xs) ∧ te σ H1 fun y H2 => r x [y] H2 Q
theorem pe_tidx {o e : Expr} {to te : TE} {apos cpos : Pos} {r : V → List V → Hp → VK → Prop} (hm : MtR X "tuple.index" r) (ho : PE X o to) (he : PE X e te)
    (hbase : attributeBase o "index" X.env (eval o X.env) = eval o X.env := by rfl)
    (hfew : ((backTo cpos (starEach [e] X.env)).all (fun x => !x.1) && (backToKw cpos (keywordEach [] X.env)).all (fun x => x.1.isSome)
      && decide (([e] : List Expr).length + ([] : List Keyword).length + (if ([] : List Keyword).isEmpty then 0 else 1) < 30)) = true := by rfl)
    (hline : (apos.endLine == cpos.line) = true := by rfl) (hs : starEach [e] X.env = (false, eval e X.env) :: starEach [] X.env := by rfl) :
    PE X (.Call (.Attribute o "index" apos) [e] [] cpos) (tTIdx r to te) := by
  refine ⟨fun pins s σ H Q I h => ?_⟩
  refine wpAny_Call_method_late hbase hfew hline rfl (thn (ho.run pins s σ H _ I h) fun v s1 ⟨x, H1, I1, r1, ty, q1⟩ => ?_)
  obtain ⟨a, xs, rfl, ob, hd, hx⟩ := ty
  cases r1
  obtain ⟨g1, z, its, rv, ht⟩ := I1.hok a _ hx
  refine ⟨"tuple", "tuple.index", PySem.F.plainAttrs_tuple, PySem.F.slot_tuple_index, PySem.F.type_tuple_index, ht.typeIs, fun b hb => ?_, ?_⟩
  · cases hb
    exact ⟨ob, g1, hd⟩
  · rw [hs]
    have hA := (pa_cons (X := X) he pa_nil hs).run cpos pins s1 σ H1 (fun vs H2 => r (.ref a) vs H2 Q) I1 q1
    rw [hs] at hA
    refine Calls.callWith_builtin rfl (Calls.evalArgs_plain ?_)
    exact thn hA fun us s2 ⟨vs, H2, I2, r2, q2⟩ => hm pins s2 σ H2 (.ref a) vs (.ref a) us Q I2 rfl r2 q2
end
end K76
/-! text R1b -/
set_option Elab.async false
set_option linter.all false
set_option maxRecDepth 100000
set_option maxHeartbeats 4000000
namespace K76
open PySem PySem.Spec PyProof.Rows L2
section
variable {X : Cx}
/-! ### repr(a bool), text * 8, texts sorted -/
theorem call_repr_bl : CallR X (.builtin "repr") (fun xs H Q => ∃ b, xs = [.bl b] ∧ Q (.str (if b = true then "True" else "False")) H) := by
  intro pins s σ H xs us Q I rr hh
  obtain ⟨b, rfl, q⟩ := hh
  obtain ⟨u, rfl, rx⟩ := vals1 rr
  cases rx
  exact PySem.P.repr_of_bool ⟨.str _, H, I.tok _, ⟨_, rfl⟩, q⟩
/-- a sign or more, eight times -/
theorem op_mul8 : OpR X (binaryOp .Mult) (fun x y H Q => ∃ z : Str, x = .str z ∧ y = .int 8 ∧ 1 ≤ z.length ∧ z.length ≤ 1000 ∧ Q (.str ⟨(List.replicate 8 z.cps).foldl (· ++ ·) #[]⟩) H) := by
  intro pins s σ H x y v u Q I rx ry hh
  obtain ⟨z, rfl, rfl, h1, h2, q⟩ := hh
  obtain ⟨t, rfl⟩ := rx
  obtain ⟨t', rfl⟩ := ry
  have e0 : ¬ z.length = 0 := by omega
  refine PySem.P.mul_str (by decide) (fun _ _ => ?_) (fun _ _ => ?_) ?_
  · have : ((2 : Int) ^ 63 - 1) / 8 = 1152921504606846975 := by decide
    rw [this]; omega
  · show Builtin.Str.tooLong (z.length * 8) = false
    unfold Builtin.Str.tooLong
    have := sizeLine_eq
    simp; omega
  · rw [if_neg (by decide), if_neg (by simp [e0])]
    refine ⟨?_, .str _, H, I.tok _, ⟨_, rfl⟩, q⟩
    show Array.size (List.foldl (fun x1 x2 => x1 ++ x2) #[] (List.replicate 8 z.cps)) ≤ sizeLine
    have h3 : z.cps.size ≤ 1000 := h2
    have := sizeLine_eq
    simp only [List.replicate, List.foldl_cons, List.foldl_nil, Array.size_append]
    simp
    omega
def rSortS (K : PySem.W.Frag) : List V → Hp → VK → Prop := fun vs H Q => ∃ (a : Addr) (xs : List Str), vs = [V.ref a] ∧ SqL K H a (xs.map V.str) ∧
  ∀ (ys : List Str) (p : Addr), ys.Perm xs → sortedS ys = true → H p = none → Q (.ref p) (upd H p (.lst (ys.map V.str)))
theorem cr_sortS : CallR X (.builtin "sorted") (rSortS X.K) := by
  intro pins s σ H vs us Q I rr hh
  obtain ⟨a, xs, rfl, hs, q⟩ := hh
  obtain ⟨its, rv, hl, hz⟩ := I.list hs
  rw [Vals.ref1 rr]
  have len0 := rv.length
  refine PyProof.Rows.sorted_strsAny hl.isList rv.strs (by omega) fun out ys g1 g2 g3 => ?_
  obtain ⟨ep, hat⟩ := PyProof.Rows.sortedAll_at s.heap its out
  have hlen : (ys.map V.str).length ≤ sizeLine := by rw [List.length_map, g2.length_eq]; rw [List.length_map] at hz; exact hz
  have J : Inv X pins σ (upd H (s.heap.objs.size + 1) (.lst (ys.map V.str))) { s with heap := PyProof.Rows.sortedAll s.heap its out } :=
    I.laid (t' := s.toks) (fun _ _ => PyProof.Rows.sortedAll_old) (Nat.le_succ _) ⟨hlen, out.toList, ep, vals_of_strs g1, hat⟩
  exact ⟨.ref _, _, J, rfl, q ys _ g2 g3 (I.hok.fresh (Nat.le_succ _))⟩
/-- sorted of a tuple of texts -/
def rSortST (K : PySem.W.Frag) : List V → Hp → VK → Prop := fun vs H Q => ∃ (a : Addr) (xs : List Str), vs = [V.ref a] ∧ SqT K H a (xs.map V.str) ∧
  ∀ (ys : List Str) (p : Addr), ys.Perm xs → sortedS ys = true → H p = none → Q (.ref p) (upd H p (.lst (ys.map V.str)))

/-! ### list.extend(a tuple), tuple[::-1] -/
theorem ext_tup (l : Addr) (items : Array Value) (n : Nat) (b : Addr) (items2 : Array Value) (n2 : Nat) (dd : Option Addr) (sl : Array (Option Value)) (hs0 : ¬(!items.isEmpty && Builtin.List.listTooLong (items.size + items2.size)) = true)
    (hs1 : items.size ≤ sizeLine) (hs2 : items.size + items2.size ≤ sizeLine + 1) :
    Meets (Builtin.«list.extend» ⟨[.ref l, .ref b], []⟩) (fun _ R s => s.heap.get? l = some { cls := .type "list", dict := none, data := .seq items n, slots := #[] } ∧ s.heap.get? b = some { cls := .type "tuple", dict := dd, data := .seq items2 n2, slots := sl } ∧
      R (.ok (.ret Value.none)) { s with heap := s.heap.update l (Obj.mapSeq fun x => x ++ items2), toks := s.toks }) :=
  .of_wp fun prog w A R s h => by
    obtain ⟨hp, g, d, tk, os⟩ := s
    obtain ⟨hl, hb, h⟩ := h
    have f1 := PySem.AutoSeq1.idx_int
    have f2 := PySem.AutoSeq1.sub_tuple_tuple
    have f3 := PySem.AutoSeq1.sub_list_list
    have f4 := PySem.AutoSeq1.sub_tuple_list
    have f5 := PySem.AutoSeq1.sub_list_tuple
    have hz2 : (items ++ items2).size ≤ sizeLine + 1 := by rw [Array.size_append]; exact hs2
    wp_walk using (PySem.wpAny_updateSeq hl rfl (hz := hs1) (_hz' := hz2)), PySem.AutoSeq1.wpAny_loadPart' hl, PySem.AutoSeq1.wpAny_loadPart' hb
    exact ⟨_, rfl, h⟩
end
end K76
/-! text R1c -/
set_option Elab.async false
set_option linter.all false
set_option maxRecDepth 100000
set_option maxHeartbeats 4000000
namespace K76
open PySem PySem.Spec PyProof.Rows L2
section
variable {prog : Program} {w : World} {A : Around} {E : Value → Shared → Prop} {s : Shared}
theorem sorted_tupS {l : Addr} {vs : List Value} {ss : List Str} {Q : Value → Shared → Prop} (ht : IsTup s.heap l vs.toArray) (hS : StrsAre vs ss) (hL : vs.length ≤ sizeLine)
    (h : ∀ (h1 h2 : Heap) (out : Array Value) (ep : Nat) (ys : List Str), (∀ b o, s.heap.get? b = some o → h1.get? b = some o) → (∀ b o, h1.get? b = some o → h2.get? b = some o) →
      StrsAre out.toList ys → ys.Perm ss → sortedS ys = true → h2.get? h1.objs.size = some (seqObj "list" out ep) → Q (.ref h1.objs.size) { s with heap := h2 }) :
    wpAny (model prog w) A (call (.builtin "sorted") [.ref l]) Q E s := by
  obtain ⟨o, ho, hc, n, hd⟩ := ht
  refine Calls.call_function_entry kind_sorted plain_sorted entry_sorted (args_sorted1 _) ?_
  unfold Builtin.«sorted»
  refine wpAny_bind (m := checkCount "sorted" 1 1 _) (wpAny_pure ?_)
  refine wpAny_bind (wpAny_collect_seq l (T := "tuple") (.inr rfl) ho hc hd (fun h1 hk => ?_) (by rw [List.size_toArray]; exact hL))
  have hoL : (h1.push (seqObj "list" vs.toArray 0)).get? h1.objs.size = some (seqObj "list" vs.toArray 0) := Heap.get?_push_size _ rfl
  refine wpAny_bind (wpAny_newList ?_)
  show wpAny _ _ _ _ _ { s with heap := h1.push (seqObj "list" vs.toArray 0) }
  refine wpAny_bind (wpAny_holding (wpAny_call_entry slot_list_sort ⟨_, hoL, rfl⟩ entry_list_sort (list_sort_treeKAny strKind_oneLt hoL hS.keysOf
    (fun a b rest e => keyKind_strs (by rw [← e]; exact hS)) hL fun st2 a1 a2 => ⟨_, rfl, ?_⟩) (args_list_sort _)))
  obtain ⟨ys, g1, g2, g3⟩ := sorted_out_str hS a1 a2
  obtain ⟨ep, hat⟩ := sortedHeap_at (vs := vs) (out := (arrOf st2).map (·.2)) hoL
  refine wpAny_pure ⟨_, rfl, h h1 _ _ ep ys hk (fun b ob e => ?_) g1 g2 g3 hat⟩
  rw [sortedHeap_old (Nat.ne_of_lt (Heap.lt_size e)) (by rw [size_push']; exact Nat.lt_succ_of_lt (Heap.lt_size e))]
  exact Heap.get?_push_of_some _ e
end
section
variable {X : Cx}
theorem cr_sortST : CallR X (.builtin "sorted") (rSortST X.K) := by
  intro pins s σ H vs us Q I rr hh
  obtain ⟨a, xs, rfl, hs, q⟩ := hh
  obtain ⟨its, rv, hl, hz⟩ := I.tuple hs
  rw [Vals.ref1 rr]
  have len0 := rv.length
  refine sorted_tupS hl rv.strs (by omega) fun h1 h2 out ep ys k1 k2 g1 g2 g3 hat => ?_
  have hlen : (ys.map V.str).length ≤ sizeLine := by rw [List.length_map, g2.length_eq]; rw [List.length_map] at hz; exact hz
  have I1 : Inv X pins σ H { s with heap := h1 } := I.kept (t' := s.toks) k1
  have J : Inv X pins σ (upd H h1.objs.size (.lst (ys.map V.str))) { s with heap := h2 } :=
    I1.laid (t' := s.toks) k2 (Nat.le_refl _) ⟨hlen, out.toList, ep, vals_of_strs g1, hat⟩
  exact ⟨.ref _, _, J, rfl, q ys _ g2 g3 (I1.hok.fresh (Nat.le_refl _))⟩
/-- list.extend(t) -/
def rExtT (K : PySem.W.Frag) : V → List V → Hp → VK → Prop := fun x vs H Q => ∃ l b xs zs, x = .ref l ∧ vs = [.ref b] ∧ H l = some (.lst xs) ∧ SqT K H b zs ∧ xs.length + zs.length ≤ sizeLine ∧ Q .non (upd H l (.lst (xs ++ zs)))
theorem mt_extT : MtM X "list.extend" (rExtT X.K) := by
  intro pins s σ H x vs v us Q I rx rv hh
  obtain ⟨l, b, xs, zs, rfl, rfl, hH, hB, hz, q⟩ := hh
  cases rx
  obtain ⟨u, rfl, ru⟩ := rv.one
  cases ru
  obtain ⟨z, its, n, r, hl, e⟩ := I.lstM hH
  obtain ⟨its2, r2, ht, z2⟩ := I.tuple hB
  obtain ⟨⟨cls, dd, dt, sl⟩, e2, hc2, n2, hd2⟩ := ht
  simp only at hc2 hd2
  subst hc2 hd2
  have hl2 := r2.length
  have hsz : its.toArray.size + its2.toArray.size ≤ sizeLine := by rw [List.size_toArray, List.size_toArray]; omega
  have long : ¬ (!its.toArray.isEmpty && Builtin.List.listTooLong (its.toArray.size + its2.toArray.size)) = true := by
    rw [notLongL hsz, Bool.and_false]; exact Bool.false_ne_true
  refine call_meets F.slot_list_extend ⟨_, e, rfl⟩ F.entry_list_extend (F.args_list_extend_2 _ _)
    (ext_tup l its.toArray n b its2.toArray n2 dd sl long (by rw [List.size_toArray]; omega) (by omega)) ⟨e, e2, ?_⟩
  refine ⟨.non, _, I.lset (its' := its ++ its2) hH e (by simp) (r.append r2) ?_, rfl, q⟩
  rw [List.length_append]; omega
/-! ### t[::-1] -/
theorem rev_adjust (n : Nat) : Builtin.Slice.sliceAdjust none none (-1) (n : Int) = ((n : Int) - 1, -1) := rfl
theorem rev_places (n : Nat) : Builtin.Slice.slicePlaces ((n : Int) - 1) (-1) (-1) = n := by
  unfold Builtin.Slice.slicePlaces
  rw [if_neg (by decide)]
  by_cases h : (n : Int) - 1 > -1
  · rw [if_pos h, show (-(-1) : Int) = 1 from rfl, Int.ediv_one]; omega
  · rw [if_neg h]; omega
theorem rev_pick (xs : List Value) : ((List.range xs.length).filterMap fun (m : Nat) => xs.toArray[((xs.length : Int) - 1 + (m : Int) * (-1)).toNat]?) = xs.reverse := by
  have e : ∀ k, k ≤ xs.length → ((List.range k).filterMap fun (m : Nat) => xs.toArray[((xs.length : Int) - 1 + (m : Int) * (-1)).toNat]?) = xs.reverse.take k := by
    intro k
    induction k with
    | zero => intro _; rfl
    | succ k ih =>
      intro hk
      rw [List.range_succ, List.filterMap_append, ih (by omega), List.take_add_one]
      congr 1
      have hi : ((xs.length : Int) - 1 + (k : Int) * (-1)).toNat = xs.length - 1 - k := by omega
      have h1 : xs.length - 1 - k < xs.length := by omega
      simp only [List.filterMap_cons, List.filterMap_nil, hi]
      rw [List.getElem?_reverse (by omega)]
      simp [h1]
  have := e xs.length (Nat.le_refl _)
  rw [this, List.take_of_length_le (by simp)]
section
variable {prog : Program} {w : World} {A : Around} {E : Value → Shared → Prop} {s : Shared}
theorem applied_back {sl : Addr} {vl vu vs : Value} {n : Nat} {Q : Int × Int × Nat → Shared → Prop} (hs : s.heap.IsSliceOf sl vl vu vs) (pl : IsPart vl none) (pu : IsPart vu none) (ps : IsPart vs (some (-1)))
    (h : Q ((n : Int) - 1, -1, n) s) : wpAny (model prog w) A (Builtin.Slice.sliceApplied (.ref sl) (pure (n : Int))) Q E s := by
  obtain ⟨ob, hob, hcb, hdb⟩ := id hs
  unfold Builtin.Slice.sliceApplied Builtin.Slice.sliceFields
  refine wpAny_bind (wpAny_bind (wpAny_field hob hdb (x := vl) rfl (wpAny_bind (wpAny_field hob hdb (x := vu) rfl (wpAny_bind (wpAny_field hob hdb (x := vs) rfl (wpAny_pure ?_)))))))
  refine wpAny_bind (HT.slicePart_ ps ?_)
  show wpAny _ _ (if ((-1 : Int) == 0) = true then _ else _) _ _ s
  rw [if_neg (by decide)]
  refine wpAny_bind (HT.slicePart_ pl (wpAny_bind (HT.slicePart_ pu (wpAny_bind (wpAny_pure ?_)))))
  show wpAny _ _ (match Builtin.Slice.sliceAdjust none none (-1) (n : Int) with | (lo, hi) => pure (lo, (-1 : Int), Builtin.Slice.slicePlaces lo hi (-1))) _ _ s
  rw [rev_adjust n]
  show wpAny _ _ (pure ((n : Int) - 1, (-1 : Int), Builtin.Slice.slicePlaces ((n : Int) - 1) (-1) (-1))) _ _ s
  rw [rev_places]
  exact wpAny_pure h
theorem getItem_back {t sl : Addr} {its : List Value} {vl vu vs : Value} {Q : Value → Shared → Prop} (ht : IsTup s.heap t its.toArray) (hs : s.heap.IsSliceOf sl vl vu vs) (pl : IsPart vl none) (pu : IsPart vu none) (ps : IsPart vs (some (-1)))
    (h : Q (.ref s.heap.objs.size) { s with heap := s.heap.push { cls := .type "tuple", data := .seq its.reverse.toArray } }) (hsz : its.length ≤ sizeLine) : wpAny (model prog w) A (getItem (.ref t) (.ref sl)) Q E s := by
  have hok : sizeOk (.seq its.reverse.toArray) := by
    show its.reverse.toArray.size ≤ sizeLine
    rw [List.size_toArray, List.length_reverse]; exact hsz
  obtain ⟨ob, hob, hcb, hdb⟩ := id hs
  have hT : s.TypeIs (.ref sl) "slice" := ⟨ob, hob, hcb⟩
  unfold getItem
  try with_reducible refine wpAny_holding ?_
  first | refine wpAny_bind (wpAny_pure ?_) | skip
  refine wpAny_bind (wpAny_sequenceKey ht.typeIs (by decide) ?_)
  refine wpAny_bind (wpAny_callSpecial?_slot (name := Str.ofString "__getitem__") ht.typeIs PyProof.Rows.slot_tuple_getitem
    (wpAny_call_entry PyProof.Rows.slot_tuple_getitem ht.typeIs entry_tuple_getitem ?_ (args_tuple_getitem _ _)))
  show wpAny _ _ (Builtin.Tuple.tupleItemsOf (.ref t) >>= _) _ _ s
  refine wpAny_bind (tupleItemsOf_ ht ?_)
  refine wpAny_bind (wpAny_typeOf hT ?_)
  rw [if_pos (by decide)]
  have en : (its.toArray.size : Int) = (its.length : Int) := by rw [List.size_toArray]
  rw [en]
  refine wpAny_bind (applied_back (n := its.length) hs pl pu ps ?_)
  show wpAny _ _ (if (((its.length : Int) - 1) == 0 && (-1 : Int) == 1 && its.length == its.toArray.size) = true then _ else _) _ _ s
  rw [if_neg (by simp), rev_pick]
  first
    | exact wpAny_bind (m := Builtin.Tuple.tupleExact _) (wpAny_newObj_type (wpAny_pure ⟨_, rfl, wpAny_pure h⟩) hok)
    | exact wpAny_bind (m := Builtin.Tuple.tupleExact _) (wpAny_newObj_type (wpAny_bind (wpAny_pure (wpAny_pure ⟨_, rfl, wpAny_pure h⟩))) hok)
    | exact wpAny_bind (wpAny_bind (m := Builtin.Tuple.tupleExact _) (wpAny_newObj_type (wpAny_pure (wpAny_pure ⟨_, rfl, wpAny_pure h⟩)) hok))
    | exact wpAny_bind (wpAny_bind (m := Builtin.Tuple.tupleExact _) (wpAny_newObj_type (wpAny_pure ⟨_, rfl, wpAny_pure h⟩) hok))
end
def tRevT (K : PySem.W.Frag) (te : TE) : TE := fun σ H Q => te σ H fun x H1 => ∃ a xs, x = .ref a ∧ SqT K H1 a xs ∧ ∀ p, H1 p = none → Q (.ref p) (upd H1 p (.tup xs.reverse))
theorem pe_revT {e : Expr} {te : TE} {k : Nat} {p1 p2 p3 pos : Pos} (he : PE X e te) : PE X (.Subscript e (.Slice none none (some (.UnaryOp .USub (.Constant (.int 1) k p1) p2)) p3) pos) (tRevT X.K te) := by
  refine ⟨fun pins s σ H Q I h => ?_⟩
  refine Subscript_ (thn (he.run pins s σ H _ I h) fun v s1 ⟨x, H1, I1, r1, q1⟩ => ?_)
  obtain ⟨a, xs, rfl, hx, q⟩ := q1
  cases r1
  have hst : PO X (some (.UnaryOp .USub (.Constant (.int 1) k p1) p2)) (tPart (tUn (rU fun i => .int (-i)) (tC (.int 1)))) := po_some (pe_un un_neg pe_int)
  refine wpAny_Slice (thn (po_none.run pins s1 σ H1 (fun o H2 => o = none ∧ H2 = H1) I1 ⟨rfl, rfl⟩) fun vl s2 ⟨lo, H2, I2, pl, el, e2⟩ => ?_)
  subst el e2
  refine thn (po_none.run pins s2 σ H2 (fun o H3 => o = none ∧ H3 = H2) I2 ⟨rfl, rfl⟩) fun vu s3 ⟨hi, H3, I3, pu, eu, e3⟩ => ?_
  subst eu e3
  refine thn (hst.run pins s3 σ H3 (fun o H4 => o = some (-1) ∧ H4 = H3) I3 ⟨1, rfl, -1, rfl, rfl, rfl⟩) fun vs s4 ⟨so, H4, I4, ps, eo, e4⟩ => ?_
  subst eo e4
  have I5 : Inv X pins σ H4 { s4 with heap := s4.heap.push { cls := .type "slice", data := .fields #[vl, vu, vs] } } := I4.kept (t' := s4.toks) fun b ob q => Heap.get?_push_of_some _ q
  obtain ⟨its, r, ht, hz⟩ := I5.tuple hx
  have hlen := r.length
  show wpAny (model X.prog X.w) X.A (subscriptTail e (.Slice none none (some (.UnaryOp .USub (.Constant (.int 1) k p1) p2)) p3) (.ref a) (.ref s4.heap.objs.size)) (EP X pins σ Q) X.xe
    { s4 with heap := s4.heap.push { cls := .type "slice", data := .fields #[vl, vu, vs] } }
  refine tail_any (ops := [.ref a, .ref s4.heap.objs.size]) ht.typeIs (PyProof.Rows.slot_tuple_getitem.lookup) ?_ (by with_unfolding_all rfl)
  refine getItem_back ht (Heap.IsSliceOf.new _ vl vu vs) pl pu ps ?_ (by omega)
  refine ⟨.ref _, _, I5.laid (t' := s4.toks) (o := .tup xs.reverse) (fun b ob q => Heap.get?_push_of_some _ q) (Nat.le_refl _) ?_, rfl, q _ (I5.hok.fresh (Nat.le_refl _))⟩
  exact ⟨by rw [List.length_reverse]; exact hz, its.reverse, r.reverse, ⟨_, Heap.get?_push_size _ rfl, rfl, _, rfl⟩⟩
/-! ### against what is empty -/
def rEq0 (K : PySem.W.Frag) (ne : Bool) : R2 := fun x y H Q => ∃ a b xs, x = .ref a ∧ y = .ref b ∧ ((SqL K H a xs ∧ SqL K H b []) ∨ (SqT K H a xs ∧ SqT K H b [])) ∧ Q (.bl (if ne = true then !xs.isEmpty else xs.isEmpty)) H
theorem op_eq0 (hu : X.A.units < cLine) : OpR X (compareOp .Eq) (rEq0 X.K false) := by
  intro pins s σ H x y v u Q I rx ry hh
  obtain ⟨a, b, xs, rfl, rfl, hd, q⟩ := hh
  cases rx
  cases ry
  rcases hd with ⟨ha, hb⟩ | ⟨ha, hb⟩
  · obtain ⟨its, r1, p1, _⟩ := I.list ha
    obtain ⟨its2, r2, p2, _⟩ := I.list hb
    cases r2
    cases xs with
    | nil =>
      cases r1
      exact SeqAt.RcAt.lists (e := fun _ => true) p1.isList p2.isList rfl hu (fun j h1 _ => by simp at h1) _ _ _ _ ⟨.bl true, H, I, rfl, q⟩
    | cons x xs =>
      cases r1 with
      | cons g1 g2 => exact SeqAt.RcAt.lists_lengths p1.isList p2.isList (by simp) hu _ _ _ _ ⟨.bl false, H, I, rfl, q⟩
  · obtain ⟨its, r1, p1, _⟩ := I.tuple ha
    obtain ⟨its2, r2, p2, _⟩ := I.tuple hb
    cases r2
    refine SeqAt.RcAt.tuples (e := fun _ => true) p1 p2 hu (fun j _ h2 => by simp at h2) _ _ _ _ ?_
    cases xs with
    | nil => cases r1; exact ⟨.bl true, H, I, rfl, q⟩
    | cons x xs =>
      cases r1 with
      | cons g1 g2 => exact ⟨.bl false, H, I, by simp [L2.RelV], q⟩
theorem op_ne0 (hu : X.A.units < cLine) : OpR X (compareOp .NotEq) (rEq0 X.K true) := by
  intro pins s σ H x y v u Q I rx ry hh
  obtain ⟨a, b, xs, rfl, rfl, hd, q⟩ := hh
  cases rx
  cases ry
  rcases hd with ⟨ha, hb⟩ | ⟨ha, hb⟩
  · obtain ⟨its, r1, p1, _⟩ := I.list ha
    obtain ⟨its2, r2, p2, _⟩ := I.list hb
    cases r2
    cases xs with
    | nil =>
      cases r1
      exact SeqAt.RcNeAt.lists (e := fun _ => true) p1.isList p2.isList rfl hu (fun j h1 _ => by simp at h1) _ _ _ _ ⟨.bl false, H, I, rfl, q⟩
    | cons x xs =>
      cases r1 with
      | cons g1 g2 => exact SeqAt.RcNeAt.lists_lengths p1.isList p2.isList (by simp) hu _ _ _ _ ⟨.bl true, H, I, rfl, q⟩
  · obtain ⟨its, r1, p1, _⟩ := I.tuple ha
    obtain ⟨its2, r2, p2, _⟩ := I.tuple hb
    cases r2
    refine SeqAt.RcNeAt.tuples (e := fun _ => true) p1 p2 hu (fun j _ h2 => by simp at h2) _ _ _ _ ?_
    cases xs with
    | nil => cases r1; exact ⟨.bl false, H, I, rfl, q⟩
    | cons x xs =>
      cases r1 with
      | cons g1 g2 => exact ⟨.bl true, H, I, by simp [L2.RelV], q⟩
/-! ### list(d.keys()) -/
def keysO (v d : Addr) : HO := .ext fun h => PySem.W.KdlKeysView h v d
def tKeysV (td : TE) : TE := fun σ H Q => td σ H fun x H1 => ∃ d kvs, x = .ref d ∧ H1 d = some (.dK kvs) ∧ ∀ v, H1 v = none → Q (.ref v) (upd H1 v (keysO v d))
theorem keysO_ok {P : Program} {w : World} {H : Hp} {h : Heap} {v d : Addr} (e : h.get? v = some { cls := .type "dict_keys", data := .fields #[.ref d] }) : ObjOk P w H h v (keysO v d) :=
  ⟨⟨_, e, rfl, rfl⟩, ⟨_, e⟩, fun _ _ ⟨o, ho, r⟩ k => ⟨o, k o ho, r⟩⟩
theorem pe_keysV {e : Expr} {td : TE} {apos cpos : Pos} (he : PE X e td) (hbase : attributeBase e "keys" X.env (eval e X.env) = eval e X.env := by rfl) (hline : (apos.endLine == cpos.line) = true := by rfl) :
    PE X (.Call (.Attribute e "keys" apos) [] [] cpos) (tKeysV td) := by
  refine ⟨fun pins s σ H Q I h => ?_⟩
  refine wpAny_Call_method (T := "dict") (id := "dict.keys") hbase rfl hline F.plainAttrs_dict F.slot_dict_keys F.type_dict_keys (thn (he.run pins s σ H _ I h) fun u s1 ⟨x, H1, I1, rx, d, kvs, ex, hd, q⟩ => ?_)
  subst ex
  obtain rfl : u = Value.ref d := rx
  obtain ⟨z, hs, vs, kv, hm⟩ := dk_of I1.hok hd
  refine ⟨hm.typeIs, hm.mapOf.noDict, ?_⟩
  have I2 : Inv X pins σ (upd H1 s1.heap.objs.size (keysO s1.heap.objs.size d)) { s1 with heap := s1.heap.push { cls := .type "dict_keys", data := .fields #[.ref d] } } :=
    I1.laid (t' := s1.toks) (fun b ob q => Heap.get?_push_of_some _ q) (Nat.le_refl _) (keysO_ok (Heap.get?_push_size _ rfl))
  show wpAny _ _ (callWith cpos (.builtin "dict.keys") [.ref d] [] []) _ X.xe s1
  exact method_meetsIn F.slot_dict_keys F.entry_dict_keys rfl (PySem.evalArgs_none ⟨rfl, hm.typeIs, F.args_dict_keys_1 _, _, PySem.W.kdl_meets_keys (mixKind X.prog X.w) d hs, ⟨vs, hm⟩, ⟨.ref s1.heap.objs.size, _, I2, rfl, q _ (I1.hok.fresh (Nat.le_refl _))⟩⟩)
def rListKV : List V → Hp → VK → Prop := fun xs H Q => ∃ v d kvs, xs = [.ref v] ∧ H v = some (keysO v d) ∧ H d = some (.dK kvs) ∧ ∀ q, H q = none → Q (.ref q) (upd H q (.lst (kvs.map fun kv => kV kv.1)))
theorem call_list_keys (hc : X.calm = true) : CallR X (.type "list") rListKV := by
  intro pins s σ H xs us Q I r h
  obtain ⟨v, d, kvs, rfl, hv, hk, q⟩ := h
  obtain ⟨u, rfl, rx⟩ := vals1 r
  obtain rfl : u = Value.ref v := rx
  obtain ⟨z, lo, vs, rk, hd⟩ := dk_of I.hok hk
  obtain ⟨view, _, _⟩ := (show ObjOk X.prog X.w H s.heap v (keysO v d) from I.hok v _ hv)
  obtain ⟨ep, hat⟩ := hd.dictAt
  have hl : kvs.length = vs.length := Paired.length rk
  refine PySem.W.kdl_call (PySem.W.kdl_keys (r := v) (d := d) (knd := mixKind X.prog X.w) (kvs := vs) (ep := ep)) (I.ok.hd hc) ⟨view, hat⟩ (by rw [← hl]; exact z) fun h2 tk acc c hkeep hS hacc => ?_
  refine ⟨.ref s.heap.objs.size, upd H s.heap.objs.size (.lst (kvs.map fun kv => kV kv.1)), I.laid hkeep (Nat.le_refl _) (show ObjOk X.prog X.w _ _ _ (.lst (kvs.map fun kv => kV kv.1)) from ⟨?_, acc.toList, c, ?_, ?_⟩), rfl, q _ (I.hok.fresh (Nat.le_refl _))⟩
  · rw [List.length_map]; exact z
  · have el : acc.toList.length = acc.size := by simp
    refine vals_of_at (by rw [List.length_map, el, hacc.1, hl]) fun j x w g1 g2 => ?_
    obtain ⟨k, y, hky, hi⟩ := hacc.2 j w (by rw [← Array.getElem?_toList]; exact g2)
    have e1 : (kvs.map (·.1))[j]? = some k := by rw [KV.keys rk, List.getElem?_map, hky]; rfl
    have e3 : (kvs.map fun kv => kV kv.1)[j]? = some (kV k) := by
      rw [show (kvs.map fun kv => kV kv.1) = (kvs.map (·.1)).map kV by rw [List.map_map]; rfl, List.getElem?_map, e1]; rfl
    rw [e3] at g1
    cases g1
    exact keyIs_rel hi
  · rw [Array.toArray_toList]; exact hS
end
end K76
/-! text R1d -/
set_option Elab.async false
set_option linter.all false
set_option maxRecDepth 100000
set_option maxHeartbeats 4000000
namespace K76
open PySem PySem.Spec PyProof.Rows L2
/-! ### dicts whose keys are None or a text -/
def lf : Option Str → PySem.Leaf
  | none => .none
  | some x => .text x
theorem lf_inj : ∀ {a b : Option Str}, lf a = lf b → a = b
  | none, none, _ => rfl
  | some x, some y, e => by injection e with e; rw [e]
  | none, some _, e => nomatch e
  | some _, none, e => nomatch e
theorem lf_dec (a b : Option Str) : decide (lf a = lf b) = decide (a = b) := by
  by_cases h : a = b
  · rw [decide_eq_true h, decide_eq_true (congrArg lf h)]
  · rw [decide_eq_false h, decide_eq_false fun z => h (lf_inj z)]
def optKind (prog : Program) (w : World) : PySem.KeyKind prog w (Option Str) where
  is := fun k v => (leafKind prog w).is (lf k) v
  hash := fun k => (leafKind prog w).hash (lf k)
  inj := fun v a b ha hb => lf_inj ((leafKind prog w).inj v _ _ ha hb)
  byValue := fun k v h => (leafKind prog w).byValue (lf k) v h
  pyHash := fun hv h => (leafKind prog w).pyHash hv h
  eqBool := fun hu hv h => (leafKind prog w).eqBool hu hv (by rw [lf_dec]; exact h)
  «strs» := fun k x t v h => (leafKind prog w).strs (lf k) x t v h
def pV : Option Str → V
  | none => .non
  | some x => .str x
theorem pV_inj : ∀ {a b : Option Str}, pV a = pV b → a = b
  | none, none, _ => rfl
  | some x, some y, e => by injection e with e; rw [e]
  | none, some _, e => nomatch e
  | some _, none, e => nomatch e
theorem pV_is {P : Program} {w : World} {k : Option Str} {u : Value} (r : L2.RelV (pV k) u) : (optKind P w).is k u = true := by
  cases k with
  | none => cases (show u = Value.none from r); rfl
  | some x =>
    obtain ⟨t, e⟩ := (show ∃ t, u = Value.str x t from r)
    subst e
    show (x == x) = true
    simp
/-- such a dict -/
def LDφ (P : Program) (w : World) (a : Addr) (kvs : List (Option Str × V)) (h : Heap) : Prop := kvs.length ≤ sizeLine ∧ (a == sysModules) = false ∧ ∃ vs, KV kvs vs ∧ h.DictOf (optKind P w) a vs
def LD (P : Program) (w : World) (a : Addr) (kvs : List (Option Str × V)) : HO := .ext (LDφ P w a kvs)
section
variable {P : Program} {w : World} {H : Hp} {h : Heap} {a : Addr} {kvs : List (Option Str × V)}
theorem ld_ok (x : LDφ P w a kvs h) : ObjOk P w H h a (LD P w a kvs) := by
  refine ⟨x, ?_, fun h1 h2 y k => ?_⟩
  · obtain ⟨_, _, vs, _, o, _, _, e, _⟩ := x
    exact ⟨o, e⟩
  · obtain ⟨z, y0, vs, r, ob, es, ep, e, c⟩ := y
    exact ⟨z, y0, vs, r, ob, es, ep, k _ e, c⟩
theorem ld_of (ok : HOk P w H h) (e : H a = some (LD P w a kvs)) : LDφ P w a kvs h := (show ObjOk P w H h a (LD P w a kvs) from ok a _ e).1
end
section
variable {X : Cx} {pins : List (Addr × Obj)} {σ : L2.St} {H : Hp} {s : Shared} {a : Addr} {kvs : List (Option Str × V)} {k : Option Str} {v : V} {u r : Value} {A : Around} {E : Value → Shared → Prop}
abbrev LDx (X : Cx) (a : Addr) (kvs : List (Option Str × V)) : HO := LD X.prog X.w a kvs
theorem ld_getItem {Q : Value → Shared → Prop} (I : Inv X pins σ H s) (e : H a = some (LDx X a kvs)) (l : valV kvs k = some v) (ry : L2.RelV (pV k) u) (h : ∀ w2 s2, Inv X pins σ H s2 → L2.RelV v w2 → Q w2 s2) :
    wpAny (model X.prog X.w) A (getItem (.ref a) u) Q E s := by
  obtain ⟨z, hd, vs, rel, dd⟩ := ld_of I.hok e
  obtain ⟨w2, hw, rw2⟩ := RelO.some_of (v := v) (o := valueAt vs k) (by rw [← l]; exact rel.val k)
  exact wpAny_getItem_of (pV_is ry) dd.mapOf hw (h w2 _ (I.tok _) rw2)
theorem ld_in {Q : Value → Shared → Prop} (I : Inv X pins σ H s) (e : H a = some (LDx X a kvs)) (ry : L2.RelV (pV k) u) (h : ∀ s2, Inv X pins σ H s2 → Q (.bool (valV kvs k).isSome) s2) :
    wpAny (model X.prog X.w) A (compareOp .In u (.ref a)) Q E s := by
  obtain ⟨z, hd, vs, rel, dd⟩ := ld_of I.hok e
  refine wpAny_in_of (pV_is ry) hd dd.mapOf ?_
  rw [← (rel.val k).isSome_eq]
  exact h _ (I.tok _)
theorem ld_set {Q : Unit → Shared → Prop} (I : Inv X pins σ H s) (e : H a = some (LDx X a kvs)) (l : kvs.length < sizeLine) (ry : L2.RelV (pV k) u) (rv : L2.RelV v r) (h : ∀ s2, Inv X pins σ (upd H a (LDx X a (putK kvs k v))) s2 → Q () s2) :
    wpAny (model X.prog X.w) A (setItem (.ref a) u r) Q E s := by
  obtain ⟨z, hd, vs, rel, dd⟩ := ld_of I.hok e
  have hz : vs.length ≤ sizeLine := by rw [← rel.length]; exact z
  have hl : (putK kvs k v).length ≤ sizeLine := by have := length_putK kvs k v; omega
  refine wpAny_setItem_pairs (hsz := hz) (pV_is ry) dd fun h2 d2 hs => h _ ?_
  have he : ∃ q, h2.get? a = some q := let ⟨q, _, _, hq, _⟩ := d2; ⟨q, hq⟩
  exact d_write I (by rw [e]; exact True.intro) hs he (ld_ok ⟨hl, hd, _, rel.put k rv, d2⟩)
theorem ld_at (I : Inv X pins σ H s) (e : H a = some (LDx X a kvs)) : s.TypeIs (.ref a) "dict" ∧ (∀ b, Value.ref a = .ref b → ∃ ob, s.heap.get? b = some ob ∧ ob.dict = none) := by
  obtain ⟨z, hd, vs, rel, dd⟩ := ld_of I.hok e
  exact ⟨dd.typeIs, dd.mapOf.noDict⟩
end
def tLdNew (P : Program) (w : World) : TE := fun _ H Q => ∀ p, H p = none → Q (.ref p) (upd H p (LD P w p []))
def tLdGet (P : Program) (w : World) (td ty : TE) : TE := fun σ H Q => td σ H fun x H1 => ty σ H1 fun y H2 => ∃ a kvs k v, x = .ref a ∧ y = pV k ∧ H2 a = some (LD P w a kvs) ∧ valV kvs k = some v ∧ Q v H2
def tLdIn (P : Program) (w : World) (ty td : TE) : TE := fun σ H Q => ty σ H fun y H1 => td σ H1 fun x H2 => ∃ a kvs k, x = .ref a ∧ y = pV k ∧ H2 a = some (LD P w a kvs) ∧ Q (.bl (valV kvs k).isSome) H2
def sLdPut (P : Program) (w : World) (td ty tv : TE) : TS := fun D σ H => tv σ H fun v H1 => td σ H1 fun x H2 => ty σ H2 fun y H3 => ∃ a kvs k, x = .ref a ∧ y = pV k ∧ H3 a = some (LD P w a kvs) ∧ kvs.length < sizeLine ∧ D.nx σ (upd H3 a (LD P w a (putK kvs k v)))
def tLdDflt (P : Program) (w : World) (td ty tx : TE) : TE := fun σ H Q => td σ H fun x H1 => (∃ a kvs, x = .ref a ∧ H1 a = some (LD P w a kvs)) ∧ ty σ H1 fun y H2 => tx σ H2 fun z H3 => ∃ a kvs k, x = .ref a ∧ y = pV k ∧ H3 a = some (LD P w a kvs) ∧ Q ((valV kvs k).getD z) H3
def tLdSetd (P : Program) (w : World) (td ty tx : TE) : TE := fun σ H Q => td σ H fun x H1 => (∃ a kvs, x = .ref a ∧ H1 a = some (LD P w a kvs)) ∧ ty σ H1 fun y H2 => tx σ H2 fun z H3 => ∃ a kvs k, x = .ref a ∧ y = pV k ∧ H3 a = some (LD P w a kvs) ∧ kvs.length < sizeLine ∧
  (∀ v, valV kvs k = some v → Q v H3) ∧ (valV kvs k = none → Q z (upd H3 a (LD P w a (putK kvs k z))))
section
variable {X : Cx} {o i e f value : Expr} {pos pos' tpos apos cpos : Pos} {td ty tv tx : TE}
theorem pe_ldnew : PE X (.Dict [] [] pos) (tLdNew X.prog X.w) := ⟨fun pins s σ H Q I h => by
  have hb := I.big
  refine wpAny_Dict_empty ⟨.ref s.heap.objs.size, _, I.laid (a := s.heap.objs.size) (o := LD X.prog X.w s.heap.objs.size []) (t' := s.toks) (fun _ _ q => Heap.get?_push_of_some _ q) (Nat.le_refl _) (ld_ok ?_), rfl, h _ (I.hok.fresh (Nat.le_refl _))⟩
  exact ⟨Nat.zero_le _, beq_eq_false_iff_ne.mpr (Ne.symm (Nat.ne_of_lt hb)), [], .nil, Heap.DictOf.new s.heap⟩⟩
theorem pe_ldget (ho : PE X o td) (hi : PE X i ty) (hs : NoSl i) : PE X (.Subscript o i pos) (tLdGet X.prog X.w td ty) := by
  refine ⟨fun pins s σ H Q I h => ?_⟩
  refine subD_of PySem.F.slot_dict_getitem.lookup hs (thn (ho.run pins s σ H _ I h) fun u s1 ⟨x, H1, I1, rx, q1⟩ => thn (hi.run pins s1 σ H1 _ I1 q1) fun iv s2 ⟨y, H2, I2, ry, a, kvs, k, v, ex, ey, g, l, q2⟩ => ?_)
  subst ex ey
  obtain rfl : u = Value.ref a := rx
  exact ⟨(ld_at I2 g).1, ld_getItem I2 g l ry fun w2 s3 I3 rw2 => ⟨v, H2, I3, rw2, q2⟩⟩
theorem pc_ldin (hi : PE X i ty) (ho : PE X o td) : PC X .In i o (tLdIn X.prog X.w ty td) := by
  refine ⟨fun pins s σ H Q I h => ?_⟩
  refine thn (hi.run pins s σ H _ I h) fun iv s1 ⟨y, H1, I1, ry, q1⟩ => thn (ho.run pins s1 σ H1 _ I1 q1) fun u s2 ⟨x, H2, I2, rx, a, kvs, k, ex, ey, g, q2⟩ => ?_
  subst ex ey
  obtain rfl : u = Value.ref a := rx
  exact ld_in I2 g ry fun s3 I3 => ⟨.bl (valV kvs k).isSome, H2, I3, rfl, q2⟩
theorem ps_ldput (ho : PE X o td) (hi : PE X i ty) (hv : PE X value tv) (hs : swapsWith value (some (.Subscript o i pos')) pos.line X.env = pure false) : PS X (.Assign [.Subscript o i pos'] value pos) (sLdPut X.prog X.w td ty tv) := by
  refine ⟨fun pins s σ H D I h => ?_⟩
  refine wpAny_Assign_Subscript (thn (hv.run pins s σ H _ I h) fun r s1 ⟨v, H1, I1, rv, q1⟩ => thn (ho.run pins s1 σ H1 _ I1 q1) fun u s2 ⟨x, H2, I2, rx, q2⟩ =>
    thn (hi.run pins s2 σ H2 _ I2 q2) fun iv s3 ⟨y, H3, I3, ry, a, kvs, k, ex, ey, g, l, q3⟩ => ?_) hs
  subst ex ey
  obtain rfl : u = Value.ref a := rx
  exact ld_set I3 g l ry rv fun s4 I4 => ⟨σ, _, I4, q3⟩
theorem pe_lddflt (ho : PE X o td) (he : PE X e ty) (hf : PE X f tx) (m : M2 X o "get" apos e f cpos) : PE X (.Call (.Attribute o "get" apos) [e, f] [] cpos) (tLdDflt X.prog X.w td ty tx) := by
  refine ⟨fun pins s σ H Q I h => ?_⟩
  refine wpAny_Call_method m.base m.few m.line PySem.F.plainAttrs_dict PySem.F.slot_dict_get PySem.F.type_dict_get (thn (ho.run pins s σ H _ I h) fun u s1 ⟨x, H1, I1, rx, ⟨a0, kv0, ex0, d0⟩, q1⟩ => ?_)
  subst ex0
  obtain rfl : u = Value.ref a0 := rx
  refine ⟨(ld_at I1 d0).1, (ld_at I1 d0).2, ?_⟩
  rw [m.trees]
  refine Calls.callWith_builtin rfl (Calls.evalArgs_plain (Calls.spliced_cons (thn (he.run pins s1 σ H1 _ I1 q1) fun iv s2 ⟨y, H2, I2, ry, q2⟩ =>
    Calls.spliced_cons (thn (hf.run pins s2 σ H2 _ I2 q2) fun fv s3 ⟨z, H3, I3, rz, a, kvs, k, ex, ey, g, q3⟩ => Calls.spliced_nil ?_))))
  injection ex with ex
  subst ex ey
  obtain ⟨zl, hd, vs, rel, dd⟩ := ld_of I3.hok g
  refine call_meetsIn PySem.F.slot_dict_get dd.typeIs PySem.F.entry_dict_get (PySem.F.args_dict_get_3 _ _ _) (meets_dict_get_default (optKind X.prog X.w) a0 (pV_is ry) hd fv) ⟨_, dd.mapOf, ?_⟩
  exact ⟨_, H3, I3.tok _, (rel.val k).getD rz, q3⟩
theorem pe_ldsetd (ho : PE X o td) (he : PE X e ty) (hf : PE X f tx) (m : M2 X o "setdefault" apos e f cpos) : PE X (.Call (.Attribute o "setdefault" apos) [e, f] [] cpos) (tLdSetd X.prog X.w td ty tx) := by
  refine ⟨fun pins s σ H Q I h => ?_⟩
  refine wpAny_Call_method m.base m.few m.line PySem.F.plainAttrs_dict PySem.F.slot_dict_setdefault PySem.F.type_dict_setdefault (thn (ho.run pins s σ H _ I h) fun u s1 ⟨x, H1, I1, rx, ⟨a0, kv0, ex0, d0⟩, q1⟩ => ?_)
  subst ex0
  obtain rfl : u = Value.ref a0 := rx
  refine ⟨(ld_at I1 d0).1, (ld_at I1 d0).2, ?_⟩
  rw [m.trees]
  refine Calls.callWith_builtin rfl (Calls.evalArgs_plain (Calls.spliced_cons (thn (he.run pins s1 σ H1 _ I1 q1) fun iv s2 ⟨y, H2, I2, ry, q2⟩ =>
    Calls.spliced_cons (thn (hf.run pins s2 σ H2 _ I2 q2) fun fv s3 ⟨z, H3, I3, rz, a, kvs, k, ex, ey, g, hl, q3, q4⟩ => Calls.spliced_nil ?_))))
  injection ex with ex
  subst ex ey
  obtain ⟨zl, hd, vs, rel, dd⟩ := ld_of I3.hok g
  have hz : vs.length ≤ sizeLine := by rw [← rel.length]; exact zl
  refine call_meetsIn PySem.F.slot_dict_setdefault dd.typeIs PySem.F.entry_dict_setdefault (PySem.F.args_dict_setdefault_3 _ _ _) (kt_meets_setdefault (optKind X.prog X.w) a0 (pV_is ry) hd fv) ⟨vs, dd, hz, fun v hv => ?_, fun hn h2 d2 hs => ?_⟩
  · have q := rel.val k
    rw [hv] at q
    cases q0 : valV kvs k with
    | none => rw [q0] at q; exact (show False from q).elim
    | some v0 => rw [q0] at q; exact ⟨v0, H3, I3.tok _, q, q3 v0 q0⟩
  · have q := rel.val k
    rw [hn] at q
    cases q0 : valV kvs k with
    | some v0 => rw [q0] at q; exact (show False from q).elim
    | none =>
      have hl2 : (putK kvs k z).length ≤ sizeLine := by have := length_putK kvs k z; omega
      have hq : ∃ q, h2.get? a0 = some q := let ⟨q, _, _, hq, _⟩ := d2; ⟨q, hq⟩
      exact ⟨z, _, d_write (t' := s3.toks + 1) I3 (by rw [g]; exact True.intro) hs hq (ld_ok ⟨hl2, hd, _, rel.put k rz, d2⟩), rz, q4 q0⟩
end
end K76
/-! text R1e -/
set_option Elab.async false
set_option linter.all false
set_option maxRecDepth 100000
set_option maxHeartbeats 4000000
namespace K76
open PySem PySem.Spec PyProof.Rows L2
/-! ### enumerate(a tuple) -/
theorem enum_newB {v : Value} {o : Obj} {P : Heap → Prop} (B : Begins v o P) :
    Meets (Builtin.«enumerate.__new__» ⟨[.type "enumerate", v], []⟩) (fun _ R s => P s.heap ∧
      R (.ok (.ret (.ref (s.heap.push o).objs.size))) { s with heap := (s.heap.push o).push { cls := .type "enumerate", data := .fields #[.none, .bool false, .ref s.heap.objs.size, rawInt 0, .none, .none] } }) :=
  .of_wp fun prog w A R s h => by
    obtain ⟨hp, g, d, tk, os⟩ := s
    obtain ⟨h1, h⟩ := h
    have hsub := sub_enumerate
    have q1 : ∀ {A2 : Around} {E : Value → Shared → Prop} {Q : Value → Shared → Prop}, Q (.ref hp.objs.size) ⟨hp.push o, g, d, tk, os⟩ → wpAny (model prog w) A2 (pyIter v) Q E ⟨hp, g, d, tk, os⟩ :=
      fun q => B.iter prog w _ _ ⟨hp, g, d, tk, os⟩ _ h1 q
    wp_walk using q1
    refine wpAny_stack_any fun st => wpAny_pure ?_
    split
    · rename_i c _ _ _ _ _
      cases (c == Value.type "enumerate")
      · wp_walk using q1
        exact ⟨_, rfl, h⟩
      · wp_walk using q1
        exact ⟨_, rfl, h⟩
    · wp_walk using q1
      exact ⟨_, rfl, h⟩
section
variable {prog : Program} {w : World} {A : Around} {E : Value → Shared → Prop} {s : Shared}
theorem enum_call {v : Value} {o : Obj} {P : Heap → Prop} {Q : Value → Shared → Prop} (B : Begins v o P) (h1 : P s.heap)
    (h : ∀ h2, IsEnum h2 (s.heap.objs.size + 1) s.heap.objs.size 0 .none → h2.get? s.heap.objs.size = some o → (∀ b o, s.heap.get? b = some o → h2.get? b = some o) → Q (.ref (s.heap.objs.size + 1)) { s with heap := h2 }) :
    wpAny (model prog w) A (call (.type "enumerate") [v]) Q E s := by
  refine callType_new F.called_enumerate (by decide) (F.typeCall_enumerate_1 _) (F.newCall_enumerate_1 _) (fun obj => F.args_object_init_2 obj _) F.entry_enumerate_new (enum_newB B) ⟨h1, ?_⟩
  have hz : (s.heap.push o).objs.size = s.heap.objs.size + 1 := Heap.size_push ..
  show _ ∧ _
  rw [hz]
  have he : IsEnum ((s.heap.push o).push { cls := .type "enumerate", data := .fields #[.none, .bool false, .ref s.heap.objs.size, rawInt 0, .none, .none] }) (s.heap.objs.size + 1) s.heap.objs.size 0 .none := by
    have z := Heap.get?_push_size (s.heap.push o) (o := { cls := .type "enumerate", data := .fields #[.none, .bool false, .ref s.heap.objs.size, rawInt 0, .none, .none] }) rfl
    rw [hz] at z; exact z
  exact ⟨⟨_, he, rfl⟩, h _ he (Heap.get?_push_of_some _ (Heap.get?_push_size _ B.free)) fun b o x => Heap.get?_push_of_some _ (Heap.get?_push_of_some _ x)⟩
end
def IteT (K : PySem.W.Frag) (a : Addr) : It :=
  ⟨fun i H => ∃ (xs : List V) (x : V), SqT K H a xs ∧ xs[i]? = some x, fun i H v H' => ∃ T x, v = .ref T ∧ H T = none ∧ H' = upd H T (.tup [.int (i : Nat), x]) ∧ ∀ xs, SqT K H a xs → xs[i]? = some x,
    fun i H => ∃ xs : List V, SqT K H a xs ∧ xs.length = i⟩
theorem turn_enumT {P : Program} {w : World} {K : PySem.W.Frag} {elts : List Expr} {kk : Nat} {tpos : Pos} (a e it : Addr) :
    Turn P w K (.Tuple elts kk tpos) (IteT K a) [e, it] e (fun i h => (∃ old, IsEnum h e it ((i : Nat) : Int) old) ∧ h.IsTupleIter it a i ∧ e ≠ it ∧ a ≠ it ∧ e ≠ a) where
  mem := by simp
  obj := fun i h st b hb => by
    obtain ⟨⟨old, he⟩, ⟨o, ho, hc, hd⟩, _⟩ := st
    have e2 : b = e ∨ b = it := by simpa using hb
    rcases e2 with z | z
    · rw [z]; exact ⟨_, he, fun v q => nomatch q⟩
    · rw [z]; exact ⟨o, ho, fun v q => by rw [hd] at q; cases q⟩
  keep := fun i h h' st k => let ⟨⟨old, he⟩, hi, n1⟩ := st; ⟨⟨old, k e (by simp) _ he⟩, hi.at fun o q => k it (by simp) o q, n1⟩
  item := by
    intro X hP hw hK hc i pins s σ H E I hf st hg
    subst hP hw hK
    obtain ⟨⟨old, he⟩, hit, hne, hai, hea⟩ := st
    obtain ⟨xs, x, hq, hx⟩ := hg
    obtain ⟨its, rv, p, hz⟩ := I.tuple hq
    obtain ⟨u, hu, ru⟩ := rv.get hx
    have hel : e < s.heap.objs.size := Heap.lt_size he
    have hil : it < s.heap.objs.size := by obtain ⟨_, q, _⟩ := hit; exact Heap.lt_size q
    have hlt : i < its.toArray.size := by rw [List.size_toArray]; exact (List.getElem?_eq_some_iff.mp hu).1
    have D := Draws.tuple (prog := X.prog) (w := X.w) (A := X.A.in1) (I.ok.hd hc) it a hai its.toArray
    refine wpAny_pyNext_enum_itemD D he ⟨hit, p⟩ hlt hne (by simp [hne, hea]) fun v h2 tk hv ho hs2 hT hsz hk => ?_
    have ev : v = u := by
      have z : its.toArray[i]? = some v := hv
      rw [List.getElem?_toArray, hu] at z
      exact (Option.some.inj z).symm
    subst ev
    refine ⟨_, rfl, wpAny_letOwnedTupleGo_enum (s := { s with heap := h2, toks := tk + 1 }) ho fun h3 he2 sb => ?_⟩
    have hT2 : h3.get? s.heap.objs.size = some { cls := .type "tuple", data := .seq #[.int i tk, v] } := (sb.2 _ (Nat.ne_of_gt hel)).trans hT
    have new : ObjOk X.prog X.w (upd H s.heap.objs.size (.tup [.int (i : Nat), x])) h3 s.heap.objs.size (.tup [.int (i : Nat), x]) :=
      ⟨by show 2 ≤ sizeLine; decide, [.int i tk, v], .cons ⟨_, rfl⟩ (.cons ru .nil), ⟨_, hT2, rfl, _, rfl⟩⟩
    have I1 : Inv X pins σ (upd H s.heap.objs.size (.tup [.int (i : Nat), x])) { s with heap := h3, toks := tk + 1 } :=
      I.turnedNew (ch := [e, it]) (fun b ob hb q => (sb.2 b (fun z => hb (by simp [z]))).trans (hk b ob (fun z => hb (by simp [z])) (fun z => hb (by simp [z])) q)) hf (Nat.le_refl _) new
    refine ⟨.ref s.heap.objs.size, _, I1, rfl, ⟨_, x, rfl, I.hok.fresh (Nat.le_refl _), rfl, fun ys hy => by rw [I.tuple_inj hy hq]; exact hx⟩, ⟨⟨v, ?_⟩, hs2.1.at fun o q => (sb.2 it (Ne.symm hne)).trans q, hne, hai, hea⟩, fun b hb => ?_⟩
    · rw [show ((i + 1 : Nat) : Int) = (i : Int) + 1 by omega]; exact he2
    · have hb2 : b < s.heap.objs.size := by
        have z0 : b = e ∨ b = it := by simpa using hb
        rcases z0 with z | z
        · rw [z]; exact hel
        · rw [z]; exact hil
      exact (upd_ne (Nat.ne_of_lt hb2)).trans (hf b hb).1
  done := by
    intro X hP hw hK hc i pins s σ H E I hf st hg
    subst hP hw hK
    obtain ⟨⟨old, he⟩, hit, hne, hai, hea⟩ := st
    obtain ⟨xs, hq, hx⟩ := hg
    obtain ⟨its, rv, p, hz⟩ := I.tuple hq
    obtain ⟨f0, f1, f2, f3, f4, f5⟩ := hf it (by simp)
    have hl := rv.length
    have D := Draws.tuple (prog := X.prog) (w := X.w) (A := X.A.in1) (I.ok.hd hc) it a hai its.toArray
    have hn : i = its.toArray.size := by rw [List.size_toArray]; omega
    exact wpAny_pyNext_enum_endD D he ⟨by rw [← hn]; exact hit, p⟩ fun h2 eb => ⟨rfl, I.turned (t' := s.toks) (fun b o hb q => eb b o hb q) f0 f1 f3 f4 f5⟩
  self := fun A i s Q E st h => let ⟨⟨_, he⟩, _⟩ := st; wpAny_pyIter_enum he h
def iEnumT (K : PySem.W.Frag) (ta : TA) : TI := fun σ H R => ta σ H fun vs H1 => ∃ a xs, vs = [.ref a] ∧ SqT K H1 a xs ∧ R (IteT K a) H1
theorem pi_enumT {X : Cx} {e : Expr} {ta : TA} {p pos tpos : Pos} {elts : List Expr} {kk : Nat} (hg : Gl X "enumerate") (hm : X.mg "enumerate" = none) (ha : PA X [e] ta) (hs : starEach [e] X.env = [(false, eval e X.env)] := by rfl) :
    PI X (.Tuple elts kk tpos) (.Call (.Name "enumerate" p) [e] [] pos) (iEnumT X.K ta) := by
  refine ⟨fun pins s σ H R I h => ?_⟩
  refine Call_ (ld_blt I hg hm boot_enumerate (PyProof.Rows.callWith_type1 (thn (ha.run pos pins s σ H _ I h) fun us s1 ⟨vs, H1, I1, r1, a, xs, ex, hq, q⟩ => ?_) hs rfl))
  subst ex
  rw [Vals.ref1 r1]
  obtain ⟨its, rv, pt, hz⟩ := I1.tuple hq
  have hal : a < s1.heap.objs.size := let ⟨_, ho, _⟩ := pt; Heap.lt_size ho
  refine enum_call (begins_tuple a its.toArray) pt fun h2 he hit hk => wpAny_pyIter_enum he ?_
  have I2 : Inv X pins σ H1 { s1 with heap := h2 } := I1.kept (t' := s1.toks) hk
  refine ⟨s1.heap.objs.size + 1, [s1.heap.objs.size + 1, s1.heap.objs.size], _, _, H1, rfl, I2, turn_enumT a (s1.heap.objs.size + 1) s1.heap.objs.size, ⟨⟨.none, he⟩, ⟨_, hit, rfl, rfl⟩, Nat.succ_ne_self _, Nat.ne_of_lt hal, Ne.symm (Nat.ne_of_lt (Nat.lt_succ_of_lt hal))⟩, fun b hb => ?_, q⟩
  have hle : s1.heap.objs.size ≤ b := by
    have z0 : b = s1.heap.objs.size + 1 ∨ b = s1.heap.objs.size := by simpa using hb
    rcases z0 with z | z
    · rw [z]; exact Nat.le_add_right _ _
    · rw [z]; exact Nat.le_refl _
  exact I1.fpOk hle (I1.hok.fresh hle)
theorem walk_enumT {K : PySem.W.Frag} {a : Addr} {xs : List V} : Walk (IteT K a) xs.length (fun H => SqT K H a xs) (YPair (fun i => some (.int (i : Nat))) (fun i => xs[i]?)) := by
  refine ⟨fun i _ hi q => ⟨xs, xs[i], q, by simp [hi]⟩, fun _ q => ⟨xs, q, rfl⟩, fun i H v H' _ q y => ?_⟩
  obtain ⟨T, x, h1, h2, h3, h4⟩ := y
  exact ⟨T, .int (i : Nat), x, h1, h2, h3, rfl, h4 xs q⟩
/-- a dict comprehension over any walk -/
theorem dc_it {J : It} {n : Nat} {G : Hp → Prop} {Y : Nat → Hp → V → Hp → Prop} (w : Walk J n G Y) {g : TG} {tt : TT} {tk tv : TE} {vs : List Nat} {σ : L2.St} {H1 : Hp} {D : Addr} {Qd : Hp → Prop} (Pv : Nat → Hp → Prop) (h0 : Pv 0 (upd H1 D (.dK [])))
    (hG : ∀ i H, i ≤ n → Pv i H → G H)
    (hs : ∀ i x H H2, i < n → Pv i H → Y i H x H2 → g x (wipe σ vs) H2 fun σ2 H3 => wipe σ2 vs = wipe σ vs ∧ tt σ2 H3 fun b H4 =>
      if b = true then tk σ2 H4 fun y H5 => tv σ2 H5 fun z H6 => ∃ kvs k, y = kV k ∧ H6 D = some (.dK kvs) ∧ kvs.length < sizeLine ∧ Pv (i + 1) (upd H6 D (.dK (putK kvs k z))) else Pv (i + 1) H4) (hd : ∀ H, Pv n H → Qd H) :
    ∃ W : Nat → Nat → Hp → Prop, (∃ m, W 0 m (upd H1 D (.dK []))) ∧ ∀ i m H, W i m H →
      (J.stop i H ∧ Qd H) ∨ (J.go i H ∧ ∃ Nx : Hp → Prop, (∀ H2, Nx H2 → ∃ m2, m2 < m ∧ W (i + 1) m2 H2) ∧ ∀ x H2, J.yld i H x H2 → g x (wipe σ vs) H2 fun σ2 H3 => wipe σ2 vs = wipe σ vs ∧ tt σ2 H3 fun b H4 =>
        if b = true then tk σ2 H4 fun y H5 => tv σ2 H5 fun z H6 => ∃ kvs k, y = kV k ∧ H6 D = some (.dK kvs) ∧ kvs.length < sizeLine ∧ Nx (upd H6 D (.dK (putK kvs k z))) else Nx H4) := by
  refine ⟨fun i m H => m = n - i ∧ i ≤ n ∧ Pv i H, ⟨n, by simp, Nat.zero_le _, h0⟩, ?_⟩
  rintro i m H ⟨rfl, hi, p⟩
  have q := hG i H hi p
  by_cases hlt : i < n
  · exact .inr ⟨w.goes i H hlt q, Pv (i + 1), fun H2 p2 => ⟨n - (i + 1), by omega, rfl, hlt, p2⟩, fun x H2 y => hs i x H H2 hlt p (w.yields i H x H2 hlt q y)⟩
  · have e : i = n := by omega
    subst e
    exact .inl ⟨w.stops H q, hd H p⟩
end K76
/-! text D0 -/
set_option Elab.async false
set_option linter.all false
set_option maxRecDepth 100000
set_option maxHeartbeats 4000000
namespace K76
open PySem PySem.Spec PyProof.Rows L2
def top (i : Nat) : Stmt := PySem.Challenge.pw_twigscripts_k76_whole_fewest_moves.main.body.getD i (.Pass ⟨0, 0, 0, 0⟩)
/-- a def of the top, called by its name -/
structure Cal (P : Program) (w : World) (K : PySem.W.Frag) (mg : Str → Option Value) (base : Heap) (k : Nat) (x : Str) (sp : Sp) : Prop where
  ex : ∃ (f : Addr) (fd : FuncData) (ps : List Str), FnOk P w K mg base CX0 k f fd ps sp ∧ mg x = some (.ref f) ∧ PySem.W.keepIn K (.ref f) = true ∧ Binds K fd ps []
structure Fnn (K : PySem.W.Frag) (mg : Str → Option Value) (x : Str) (i : Nat) : Prop where
  ex : ∃ (f : Addr) (fd : FuncData), FunD K x x (defArgs (top i)) (defBody (top i)) (defScope (top i)) [] [] f fd ∧ mg x = some (.ref f)
section
variable {P : Program} {w : World} {K : PySem.W.Frag} {mg : Str → Option Value} {base : Heap}
theorem cal {x : Str} {i : Nat} {N ps : List Str} {k : Nat} {sp : Sp} (F : Fnn K mg x i)
    (hB : ∀ (kV doc pm : Value) (an : Option Addr) (cdv ct : Value) (us : List Value), us.length = ps.length → bindArgs (PySem.W.fnOf x x (defArgs (top i)) (defBody (top i)) (defScope (top i)) .none kV doc pm an cdv ct) ⟨us, []⟩ = pure (ps.zip us))
    (S : FnScope N ps (defScope (top i))) (len : ∀ vs H Q E, sp vs H Q E → vs.length = ps.length)
    (hbody : ∀ (f : Addr) (cdv : Value) (A : Around) (outer : List Env) (s : Shared) (H : Hp) (vs : List V) (Q : VK) (E : XK), Room k (A.deeper (envOfC x (defScope (top i)) s.heap.objs.size f cdv)) → sp vs H Q E →
      ∃ t, PSs (cxOf CX0 P w K mg base N x (defScope (top i)) f cdv A outer s H E).nox (defBody (top i)) t ∧ t { nx := fun _ H' => Q .non H', rt := Q } (start N vs) H) : Cal P w K mg base (k + 1) x sp := by
  obtain ⟨f, fd, F, hm⟩ := F.ex
  refine ⟨f, fd, ps, F.ok S len fun cdv A outer s H vs Q E hr h => ?_, hm, F.kp, F.bindsN hB⟩
  obtain ⟨t, h1, h2⟩ := hbody f cdv A outer s H vs Q E hr h
  exact ⟨t, PSs.nox h1, h2⟩
end
section
variable {X : Cx} {k j : Nat} {x : Str} {sp : Sp} {p pos : Pos} {e : Expr} {es : List Expr} {t : TA}
theorem pe_cc (c : Cal X.prog X.w X.K X.mg X.base k x sp) (hr : Room j X.A) (hk : k ≤ j) (hg : Gl X x) (ha : PA X (e :: es) t)
    (hdb : (x == ("__debug__" : Str)) = false := by decide) (he : starEach (e :: es) X.env = (false, eval e X.env) :: starEach es X.env := by rfl) (hpl : (backTo pos (starEach es X.env)).any (·.1) = false := by rfl) :
    PE X (.Call (.Name x p) (e :: es) [] pos) (tCall sp [] E0 t) := by
  obtain ⟨f, fd, ps, F, hm, kp, b⟩ := c.ex
  exact pe_call F (hr.mono hk) hg hm kp b .nil pass0 ha hdb he hpl
end
/-! ### ends as texts, rows of ends -/
def enc : En Str → Str
  | .op n => ("+" : Str) ++ n
  | .cl n => ("-" : Str) ++ n
theorem enc_cps (e : En Str) : (enc e).cps.toList = match e with
    | .op n => 43 :: n.cps.toList
    | .cl n => 45 :: n.cps.toList := by
  cases e with
  | op n =>
    show ((#[43] : Array Nat) ++ n.cps).toList = _
    simp
  | cl n =>
    show ((#[45] : Array Nat) ++ n.cps).toList = _
    simp
theorem str_ext {a b : Str} (h : a.cps.toList = b.cps.toList) : a = b := by
  cases a
  cases b
  simp only at h
  congr
  exact Array.toList_inj.mp h
theorem enc_inj {a b : En Str} (h : enc a = enc b) : a = b := by
  have e := congrArg (fun z : Str => z.cps.toList) h
  simp only [enc_cps] at e
  cases a <;> cases b <;> simp at e ⊢
  · exact str_ext (congrArg Array.toList e)
  · exact str_ext (congrArg Array.toList e)
abbrev eV (e : En Str) : V := .str (enc e)
def RowV (l : List (En Str)) : List V := (l.map enc).map V.str
theorem RowV_len (l : List (En Str)) : (RowV l).length = l.length := by simp [RowV]
theorem RowV_cat (l m : List (En Str)) : RowV (l ++ m) = RowV l ++ RowV m := by simp [RowV]
theorem RowV_get {l : List (En Str)} {i : Nat} {e : En Str} (h : l[i]? = some e) : (RowV l)[i]? = some (eV e) := by simp [RowV, h]
theorem RowV_cut (l : List (En Str)) {i j : Nat} (hi : i ≤ l.length) (hj : j ≤ l.length) : cutV (RowV l) (some (i : Int)) (some (j : Int)) = RowV ((l.drop i).take (j - i)) := by
  unfold cutV
  rw [RowV_len, HT.sIx_nat, HT.sIx_nat, Nat.min_eq_left hi, Nat.min_eq_left hj]
  simp [RowV, List.map_drop, List.map_take]
theorem RowV_to (l : List (En Str)) {j : Nat} (hj : j ≤ l.length) : cutV (RowV l) none (some (j : Int)) = RowV (l.take j) := by
  unfold cutV
  rw [RowV_len, HT.sIx_nat, Nat.min_eq_left hj]
  simp [RowV, List.map_take, HT.sIx]
theorem RowV_from (l : List (En Str)) {j : Nat} (hj : j ≤ l.length) : cutV (RowV l) (some (j : Int)) none = RowV (l.drop j) := by
  unfold cutV
  rw [RowV_len, HT.sIx_nat, Nat.min_eq_left hj]
  simp only [HT.sIx, RowV, List.map_drop]
  rw [List.take_of_length_le (by simp)]
theorem flat_all (ss : List Str) : (ss.map V.str).all flatV = true := by simp [flatV]
theorem in_strs (z : Str) (ss : List Str) : inV (.str z) (ss.map V.str) = decide (z ∈ ss) := by
  unfold inV
  by_cases h : z ∈ ss
  · rw [decide_eq_true h, List.any_eq_true]
    exact ⟨.str z, List.mem_map_of_mem h, by simp [eqV]⟩
  · rw [decide_eq_false h]
    rw [Bool.eq_false_iff]
    intro q
    obtain ⟨y, hy, e⟩ := List.any_eq_true.mp q
    obtain ⟨s, hs, rfl⟩ := List.mem_map.mp hy
    have e2 : s = z := by simpa [eqV] using e
    exact h (e2 ▸ hs)
theorem mem_enc {e : En Str} {l : List (En Str)} : enc e ∈ l.map enc ↔ e ∈ l := by
  constructor
  · intro h
    obtain ⟨x, hx, q⟩ := List.mem_map.mp h
    exact enc_inj q ▸ hx
  · exact fun h => List.mem_map_of_mem h
theorem in_row (e : En Str) (l : List (En Str)) : inV (eV e) (RowV l) = decide (e ∈ l) := by
  unfold RowV
  rw [in_strs]
  by_cases h : e ∈ l
  · rw [decide_eq_true h, decide_eq_true (mem_enc.mpr h)]
  · rw [decide_eq_false h, decide_eq_false fun q => h (mem_enc.mp q)]
theorem idx_get {e : En Str} {l : List (En Str)} (h : e ∈ l) : (l.map enc)[l.idxOf e]? = some (enc e) := by
  have h1 := List.idxOf_lt_length_of_mem h
  rw [List.getElem?_map, List.getElem?_eq_getElem h1]
  simp
theorem idx_no {e : En Str} {l : List (En Str)} (h : e ∈ l) (m : Nat) (hm : m < l.idxOf e) : (l.map enc)[m]? ≠ some (enc e) := by
  intro q
  rw [List.getElem?_map] at q
  cases z : l[m]? with
  | none => rw [z] at q; cases q
  | some y =>
    rw [z] at q
    have e1 : y = e := enc_inj (Option.some.inj q)
    subst e1
    obtain ⟨h2, h3⟩ := List.getElem?_eq_some_iff.mp z
    have h4 := List.not_of_lt_findIdx (xs := l) (p := fun x => x == y) (i := m) hm
    rw [h3] at h4
    simp at h4
theorem sameT {K : PySem.W.Frag} {H H' : Hp} {a : Addr} {xs : List V} (s : Same H H') (h : SqT K H a xs) : SqT K H' a xs := by
  rcases h with (h | ⟨o, h⟩) | h
  · exact .inl (.inl (s _ _ h))
  · exact .inl (.inr ⟨o, s _ _ h⟩)
  · exact .inr h
theorem line : sizeLine = 16777216 := by decide
/-- what the top holds besides the defs -/
structure Tp (K : PySem.W.Frag) (mg : Str → Option Value) : Prop where
  b_len : mg "len" = none
  b_all : mg "all" = none
  b_any : mg "any" = none
  b_enumerate : mg "enumerate" = none
  b_tuple : mg "tuple" = none
  b_list : mg "list" = none
  b_isinstance : mg "isinstance" = none
  b_str : mg "str" = none
  b_int : mg "int" = none
  b_bool : mg "bool" = none
  b_set : mg "set" = none
  b_dict : mg "dict" = none
  b_sorted : mg "sorted" = none
  b_abs : mg "abs" = none
  b_range : mg "range" = none
  b_max : mg "max" = none
  b_repr : mg "repr" = none
  LETTERS : ∃ u, mg "LETTERS" = some u ∧ RelV (.str "abcdefghijklmnopqrstuvwxyz") u
  MAX_LETTERS : ∃ u, mg "MAX_LETTERS" = some u ∧ RelV (.int 8) u
  MOVES : ∃ a, mg "MOVES" = some (.ref a) ∧ ∀ H, SqT K H a ((["first", "last", "ahead", "behind", "front", "back"] : List Str).map V.str)
  WORDS : ∃ a, mg "WORDS" = some (.ref a) ∧ ∀ H, SqT K H a ((["first", "last", "ahead", "behind", "front", "back", "swap", "turn", "lift", "cut", "pour", "wrap", "put"] : List Str).map V.str)
  SINGLE : ∃ a, mg "SINGLE" = some (.ref a) ∧ ∀ H, SqT K H a ((["front", "back", "lift", "cut"] : List Str).map V.str)
/-! ### moves as tuples -/
def wTxt : Wrd → Str
  | .first => "first"
  | .last => "last"
  | .ahead => "ahead"
  | .behind => "behind"
  | .front => "front"
  | .back => "back"
def mvS (d : Mv Str) : List Str := if needB d.w = true then [wTxt d.w, d.a, d.b] else [wTxt d.w, d.a]
def mvV (d : Mv Str) : List V := (mvS d).map V.str
/-- a new thing at p, all else as it was -/
abbrev NewT (K : PySem.W.Frag) (H : Hp) (xs : List V) (Q : VK) : Prop := ∀ p H', Same H H' → SqT K H' p xs → Q (.ref p) H'
abbrev NewR (H : Hp) (l : List (En Str)) (Q : VK) : Prop := ∀ p H', Same H H' → TX H' p (RowV l) → Q (.ref p) H'
abbrev Ans (H : Hp) (v : V) (Q : VK) : Prop := ∀ H', Same H H' → Q v H'
theorem new_sq {K : PySem.W.Frag} {H : Hp} {xs : List V} {Q : VK} (q : NewT K H xs Q) : ∀ p, H p = none → Q (.ref p) (upd H p (.tup xs)) :=
  fun p hp => q p _ (same_new hp) (.inl (.inl upd_same))
end K76
namespace K76
open PySem PySem.Spec PyProof.Rows L2
/-! ### words for readings -/
theorem ifN {a b : Str} {A B : Prop} (h : a ≠ b) (q : B) : if decide (V.str a = V.str b) = true then A else B := by
  rw [if_neg fun z => h (V.str.inj (of_decide_eq_true z))]; exact q
theorem ifY {a b : Str} {A B : Prop} (h : a = b) (q : A) : if decide (V.str a = V.str b) = true then A else B := by
  rw [if_pos (decide_eq_true (congrArg V.str h))]; exact q
theorem ifB {c : Bool} {A B : Prop} (h1 : c = true → A) (h2 : c = false → B) : if c = true then A else B := by
  cases c
  · rw [if_neg (by decide)]; exact h2 rfl
  · rw [if_pos rfl]; exact h1 rfl
theorem ifE {c : Bool} (k : Bool) {A B : Prop} (h : c = k) (q : if k = true then A else B) : if c = true then A else B := by rw [h]; exact q
/-- what a comprehension's (or a loop's) source gives: the items of zs, one by one -/
def Yields {α : Type} (zs : List α) (e : α → V) (Y : Nat → Hp → V → Hp → Prop) : Prop := ∀ i H x H', Y i H x H' → H' = H ∧ ∃ z, zs[i]? = some z ∧ x = e z
theorem yat {α : Type} (zs : List α) (e : α → V) : Yields zs e (YAt (zs.map e)) := by
  rintro i H x H' ⟨h1, h2⟩
  rw [List.getElem?_map] at h2
  cases q : zs[i]? with
  | none => rw [q] at h2; cases h2
  | some z => rw [q] at h2; exact ⟨h1, z, rfl, (Option.some.inj h2).symm⟩
section
variable {α : Type} {J : It} {n : Nat} {G : Hp → Prop} {Y : Nat → Hp → V → Hp → Prop} {g : TG} {tt : TT} {te : TE} {vs : List Nat} {σ : L2.St} {H1 : Hp} {D : Addr} {Qd : Hp → Prop}
theorem take_filter_succ {zs : List α} {keep : α → Bool} {i : Nat} {z : α} (hz : zs[i]? = some z) : (zs.take (i + 1)).filter keep = (zs.take i).filter keep ++ (if keep z = true then [z] else []) := by
  rw [List.take_add_one, hz, List.filter_append]
  congr 1
  show List.filter keep [z] = _
  by_cases h : keep z = true
  · simp [h]
  · simp [h]
/-- [f x for x in xs if keep x], nothing that stood is changed -/
theorem lc_mapK (zs : List α) (e f : α → V) (keep : α → Bool) (w : Walk J n G Y) (hn : n = zs.length) (hy : Yields zs e Y) (hD : H1 D = none) (hz : zs.length < 1000000) (hG : ∀ H, Same H1 H → G H)
    (hs : ∀ (i : Nat) (z : α) (H : Hp) (Qn : VK) (Qf : Hp → Prop), zs[i]? = some z → Same H1 H → (∀ H', Same H H' → keep z = true → Qn (f z) H') → (∀ H', Same H H' → keep z = false → Qf H') →
      g (e z) (wipe σ vs) H fun σ2 H2 => wipe σ2 vs = wipe σ vs ∧ tt σ2 H2 fun b H3 => if b = true then te σ2 H3 Qn else Qf H3)
    (hd : ∀ H, Same H1 H → H D = some (.lst ((zs.filter keep).map f)) → Qd H) :
    ∃ W : Nat → Nat → Hp → Prop, (∃ m, W 0 m (upd H1 D (.lst []))) ∧ ∀ i m H, W i m H →
      (J.stop i H ∧ Qd H) ∨ (J.go i H ∧ ∃ Nx : Hp → Prop, (∀ H', Nx H' → ∃ m', m' < m ∧ W (i + 1) m' H') ∧ ∀ x H', J.yld i H x H' → g x (wipe σ vs) H' fun σ2 H2 => wipe σ2 vs = wipe σ vs ∧ tt σ2 H2 fun b H3 =>
        if b = true then te σ2 H3 fun y H4 => ∃ acc, H4 D = some (.lst acc) ∧ acc.length < sizeLine ∧ Nx (upd H4 D (.lst (acc ++ [y]))) else Nx H3) := by
  subst hn
  refine lc_it w (fun i H => Same H1 H ∧ H D = some (.lst (((zs.take i).filter keep).map f))) ⟨same_new hD, by simpa using upd_same⟩ (fun i H _ p => hG H p.1) (fun i x H H' hi p y => ?_) (fun H p => ?_)
  · obtain ⟨rfl, z, hz1, rfl⟩ := hy i H x H' y
    refine hs i z _ _ _ hz1 p.1 (fun H2 s2 hk => ⟨_, s2 _ _ p.2, ?_, same_mut (p.1.trans s2) hD, ?_⟩) (fun H2 s2 hk => ⟨p.1.trans s2, ?_⟩)
    · rw [line, List.length_map]
      have := List.length_filter_le keep (zs.take i)
      rw [List.length_take] at this
      omega
    · rw [upd_same, take_filter_succ hz1, if_pos hk, List.map_append]
      rfl
    · rw [s2 _ _ p.2, take_filter_succ hz1, hk]
      simp
  · have := p.2
    rw [List.take_length] at this
    exact hd H p.1 this
end
end K76
namespace K76
open PySem PySem.Spec PyProof.Rows L2
theorem flt_all {α : Type} (zs : List α) : zs.filter (fun _ => true) = zs := List.filter_eq_self.mpr fun _ _ => rfl
theorem map_bl {α : Type} (zs : List α) (p : α → Bool) : zs.map (fun z => V.bl (p z)) = (zs.map p).map V.bl := by simp
theorem all_id {α : Type} (zs : List α) (p : α → Bool) : (zs.map p).all id = zs.all p := by simp
theorem any_id {α : Type} (zs : List α) (p : α → Bool) : (zs.map p).any id = zs.any p := by simp
end K76
namespace K76
open PySem PySem.Spec PyProof.Rows L2
theorem new_o {H : Hp} {o : HO} {Q : VK} (q : ∀ p H', H p = none → Same H H' → H' p = some o → Q (.ref p) H') : ∀ p, H p = none → Q (.ref p) (upd H p o) :=
  fun p hp => q p _ hp (same_new hp) upd_same
end K76
namespace K76
open PySem PySem.Spec PyProof.Rows L2
/-! ### lists side by side -/
def Al {α β : Type} (R : α → β → Prop) : List α → List β → Prop
  | [], [] => True
  | a :: as, b :: bs => R a b ∧ Al R as bs
  | _, _ => False
theorem Al.len {α β : Type} {R : α → β → Prop} : ∀ {as : List α} {bs : List β}, Al R as bs → as.length = bs.length
  | [], [], _ => rfl
  | _ :: _, _ :: _, h => congrArg Nat.succ (Al.len h.2)
  | [], _ :: _, h => h.elim
  | _ :: _, [], h => h.elim
theorem Al.get {α β : Type} {R : α → β → Prop} : ∀ {as : List α} {bs : List β}, Al R as bs → ∀ {i : Nat} {a : α}, as[i]? = some a → ∃ b, bs[i]? = some b ∧ R a b
  | [], [], _, _, _, h => by simp at h
  | _ :: _, b :: _, h, 0, _, e => ⟨b, rfl, by have := Option.some.inj e; subst this; exact h.1⟩
  | _ :: _, _ :: _, h, i + 1, _, e => Al.get (i := i) h.2 e
  | [], _ :: _, h, _, _, _ => h.elim
  | _ :: _, [], h, _, _, _ => h.elim
theorem Al.got {α β : Type} {R : α → β → Prop} : ∀ {as : List α} {bs : List β}, Al R as bs → ∀ {i : Nat} {b : β}, bs[i]? = some b → ∃ a, as[i]? = some a ∧ R a b
  | [], [], _, _, _, h => by simp at h
  | a :: _, _ :: _, h, 0, _, e => ⟨a, rfl, by have := Option.some.inj e; subst this; exact h.1⟩
  | _ :: _, _ :: _, h, i + 1, _, e => Al.got (i := i) h.2 e
  | [], _ :: _, h, _, _, _ => h.elim
  | _ :: _, [], h, _, _, _ => h.elim
theorem Al.mono {α β : Type} {R S : α → β → Prop} (f : ∀ a b, R a b → S a b) : ∀ {as : List α} {bs : List β}, Al R as bs → Al S as bs
  | [], [], _ => trivial
  | _ :: _, _ :: _, h => ⟨f _ _ h.1, Al.mono f h.2⟩
  | [], _ :: _, h => h.elim
  | _ :: _, [], h => h.elim
theorem Al.app {α β : Type} {R : α → β → Prop} : ∀ {as : List α} {bs : List β} {cs : List α} {ds : List β}, Al R as bs → Al R cs ds → Al R (as ++ cs) (bs ++ ds)
  | [], [], _, _, _, k => k
  | _ :: _, _ :: _, _, _, h, k => ⟨h.1, Al.app h.2 k⟩
  | [], _ :: _, _, _, h, _ => h.elim
  | _ :: _, [], _, _, h, _ => h.elim
/-- a tuple of moves -/
def MvAt (K : PySem.W.Frag) (H : Hp) (v : V) (d : Mv Str) : Prop := ∃ p, v = .ref p ∧ SqT K H p (mvV d)
def MvsAt (K : PySem.W.Frag) (H : Hp) (a : Addr) (ds : List (Mv Str)) : Prop := ∃ vs, SqT K H a vs ∧ Al (MvAt K H) vs ds
theorem MvsAt.same {K : PySem.W.Frag} {H H' : Hp} {a : Addr} {ds : List (Mv Str)} (s : Same H H') (h : MvsAt K H a ds) : MvsAt K H' a ds :=
  let ⟨vs, h1, h2⟩ := h
  ⟨vs, sameT s h1, h2.mono fun _ _ ⟨p, e, q⟩ => ⟨p, e, sameT s q⟩⟩
end K76
/-! text D1 -/
set_option Elab.async false
set_option linter.all false
set_option maxRecDepth 100000
set_option maxHeartbeats 4000000
namespace K76
open PySem PySem.Spec PyProof.Rows L2
/-! ### woods in the heap -/
/-- tuples stand for ever -/
def Imm : HO → Prop
  | .tup _ => True
  | .frz _ (.tup _) => True
  | _ => False
def Kp (H H' : Hp) : Prop := ∀ b o, Imm o → H b = some o → H' b = some o
theorem Kp.refl (H : Hp) : Kp H H := fun _ _ _ e => e
theorem Kp.trans {H H1 H2 : Hp} (a : Kp H H1) (b : Kp H1 H2) : Kp H H2 := fun c o i e => b c o i (a c o i e)
theorem Kp.of {H H' : Hp} (s : Same H H') : Kp H H' := fun b o _ e => s b o e
theorem Kp.mut {H : Hp} {p : Addr} {u o : HO} (e : H p = some u) (n : ¬ Imm u) : Kp H (upd H p o) := fun b v i q => (upd_ne fun z => n (by subst z; rw [e] at q; cases q; exact i)).trans q
theorem Kp.fresh {H : Hp} {p : Addr} {o : HO} (e : H p = none) : Kp H (upd H p o) := Kp.of (same_new e)
theorem Kp.T {K : PySem.W.Frag} {H H' : Hp} {a : Addr} {xs : List V} (s : Kp H H') (h : SqT K H a xs) : SqT K H' a xs := by
  rcases h with (h | ⟨o, h⟩) | h
  · exact .inl (.inl (s _ _ trivial h))
  · exact .inl (.inr ⟨o, s _ _ trivial h⟩)
  · exact .inr h
theorem Kp.X {H H' : Hp} {a : Addr} {xs : List V} (s : Kp H H') (h : TX H a xs) : TX H' a xs := let ⟨o, d, e⟩ := h; ⟨o, d, s _ _ trivial e⟩
def TreesAt (K : PySem.W.Frag) (H : Hp) : Wd Str → List V → Prop
  | .nil, vs => vs = []
  | .cons n i r, vs => ∃ t b xs ws, vs = .ref t :: ws ∧ SqT K H t [.str n, .ref b] ∧ SqT K H b xs ∧ TreesAt K H i xs ∧ TreesAt K H r ws
def WoodAt (K : PySem.W.Frag) (H : Hp) (a : Addr) (x : Wd Str) : Prop := ∃ xs, SqT K H a xs ∧ TreesAt K H x xs
def TreeAt (K : PySem.W.Frag) (H : Hp) (v : V) (z : Str × Wd Str) : Prop := ∃ t b, v = .ref t ∧ SqT K H t [.str z.1, .ref b] ∧ WoodAt K H b z.2
theorem TreesAt.same {K : PySem.W.Frag} {H H' : Hp} (s : Kp H H') : ∀ {x : Wd Str} {vs : List V}, TreesAt K H x vs → TreesAt K H' x vs
  | .nil, _, h => h
  | .cons _ _ _, _, ⟨t, b, xs, ws, e, h1, h2, h3, h4⟩ => ⟨t, b, xs, ws, e, s.T h1, s.T h2, h3.same s, h4.same s⟩
theorem WoodAt.same {K : PySem.W.Frag} {H H' : Hp} {a : Addr} {x : Wd Str} (s : Kp H H') (h : WoodAt K H a x) : WoodAt K H' a x :=
  let ⟨xs, h1, h2⟩ := h
  ⟨xs, s.T h1, h2.same s⟩
theorem TreeAt.same {K : PySem.W.Frag} {H H' : Hp} {v : V} {z : Str × Wd Str} (s : Kp H H') (h : TreeAt K H v z) : TreeAt K H' v z :=
  let ⟨t, b, e, h1, h2⟩ := h
  ⟨t, b, e, s.T h1, h2.same s⟩
def trs : Wd Str → List (Str × Wd Str)
  | .nil => []
  | .cons n i r => (n, i) :: trs r
theorem TreesAt.al {K : PySem.W.Frag} {H : Hp} : ∀ {x : Wd Str} {vs : List V}, TreesAt K H x vs → Al (TreeAt K H) vs (trs x)
  | .nil, _, h => by subst h; trivial
  | .cons _ _ _, _, ⟨t, b, xs, ws, e, h1, h2, h3, h4⟩ => by subst e; exact ⟨⟨t, b, rfl, h1, xs, h2, h3⟩, h4.al⟩
theorem TreesAt.of {K : PySem.W.Frag} {H : Hp} : ∀ {x : Wd Str} {vs : List V}, Al (TreeAt K H) vs (trs x) → TreesAt K H x vs
  | .nil, [], _ => rfl
  | .cons _ _ _, _ :: ws, ⟨⟨t, b, e, h1, xs, h2, h3⟩, h4⟩ => ⟨t, b, xs, ws, by rw [e], h1, h2, h3, TreesAt.of h4⟩
theorem trs_names (x : Wd Str) : (trs x).map (·.1) = Wd.roots x := by
  induction x with
  | nil => rfl
  | cons n i r _ ih => simp [trs, Wd.roots, ih]
def rowT (z : Str × Wd Str) : List (En Str) := En.op z.1 :: (Wd.row z.2 ++ [En.cl z.1])
theorem trs_row (x : Wd Str) : (trs x).flatMap rowT = Wd.row x := by
  induction x with
  | nil => rfl
  | cons n i r _ ih => simp [trs, Wd.row, rowT, ih]
theorem trs_nms (x : Wd Str) : (trs x).flatMap (fun z => z.1 :: Wd.nms z.2) = Wd.nms x := by
  induction x with
  | nil => rfl
  | cons n i r _ ih => simp [trs, Wd.nms, ih]
theorem trs_prs (x : Wd Str) (p : Option Str) : (trs x).flatMap (fun z => (z.1, p) :: Wd.prs (some z.1) z.2) = Wd.prs p x := by
  induction x with
  | nil => rfl
  | cons n i r _ ih => simp [trs, Wd.prs, ih]
theorem TreesAt.len {K : PySem.W.Frag} {H : Hp} {x : Wd Str} {vs : List V} (h : TreesAt K H x vs) : vs.length = (Wd.roots x).length := by
  rw [h.al.len, ← trs_names, List.length_map]
/-- a name -/
def IsNm (n : Str) : Prop := 1 ≤ n.length ∧ n.length ≤ 8 ∧ ∀ c ∈ n.cps.toList, 97 ≤ c ∧ c ≤ 122
structure WdOk (x : Wd Str) : Prop where
  nd : (Wd.nms x).Nodup
  nm : ∀ n ∈ Wd.nms x, IsNm n
  len : (Wd.nms x).length ≤ 200
/-! ### what waits while a row is told -/
abbrev Item := En Str ⊕ (Str × Wd Str)
def itRow : Item → List (En Str)
  | .inl e => [e]
  | .inr z => rowT z
def ItemAt (K : PySem.W.Frag) (H : Hp) (v : V) : Item → Prop
  | .inl e => v = eV e
  | .inr z => TreeAt K H v z
theorem ItemAt.same {K : PySem.W.Frag} {H H' : Hp} (s : Kp H H') {v : V} : ∀ {z : Item}, ItemAt K H v z → ItemAt K H' v z
  | .inl _, h => h
  | .inr _, h => TreeAt.same s h
theorem its_len (zs : List Item) : zs.length ≤ (zs.flatMap itRow).length := by
  induction zs with
  | nil => simp
  | cons z zs ih =>
    rw [List.flatMap_cons, List.length_append, List.length_cons]
    have : 1 ≤ (itRow z).length := by cases z <;> simp [itRow, rowT]
    omega
theorem al_rev {α β : Type} {R : α → β → Prop} : ∀ {as : List α} {bs : List β}, Al R as bs → Al R as.reverse bs.reverse
  | [], [], _ => trivial
  | a :: as, b :: bs, h => by
    rw [List.reverse_cons, List.reverse_cons]
    exact (al_rev h.2).app ⟨h.1, trivial⟩
  | [], _ :: _, h => h.elim
  | _ :: _, [], h => h.elim
theorem al_map {α β γ : Type} {R : α → γ → Prop} {S : α → β → Prop} {f : β → γ} (h0 : ∀ a b, S a b → R a (f b)) : ∀ {as : List α} {bs : List β}, Al S as bs → Al R as (bs.map f)
  | [], [], _ => trivial
  | _ :: _, _ :: _, h => ⟨h0 _ _ h.1, al_map h0 h.2⟩
  | [], _ :: _, h => h.elim
  | _ :: _, [], h => h.elim
theorem al_snoc {α β : Type} {R : α → β → Prop} {as : List α} {bs : List β} {b : β} (h : Al R as (bs ++ [b])) : ∃ as' a, as = as' ++ [a] ∧ Al R as' bs ∧ R a b := by
  induction bs generalizing as with
  | nil =>
    match as, h with
    | [a], h => exact ⟨[], a, rfl, trivial, h.1⟩
  | cons c bs ih =>
    match as, h with
    | a :: as, h =>
      obtain ⟨as', a', rfl, h1, h2⟩ := ih h.2
      exact ⟨a :: as', a', rfl, ⟨h.1, h1⟩, h2⟩
end K76
namespace K76
open PySem PySem.Spec PyProof.Rows L2
section
variable {α : Type} {J : It} {n : Nat} {G : Hp → Prop} {Y : Nat → Hp → V → Hp → Prop} {g : TG} {tt : TT} {te : TE} {vs : List Nat} {σ : L2.St} {H1 : Hp} {D : Addr} {Qd : Hp → Prop}
theorem al_snoc_of {β γ : Type} {R : β → γ → Prop} {as : List β} {bs : List γ} {a : β} {b : γ} (h : Al R as bs) (r : R a b) : Al R (as ++ [a]) (bs ++ [b]) := h.app ⟨r, trivial⟩
/-- [.. for x in xs if keep x], the new items told by R -/
theorem lc_rel (zs : List α) (e : α → Hp → V → Prop) (R : Hp → V → α → Prop) (Rs : ∀ H H' v z, Kp H H' → R H v z → R H' v z) (keep : α → Bool) (w : Walk J n G Y) (hn : n = zs.length)
    (hy : ∀ i H x H', Same H1 H → Y i H x H' → H' = H ∧ ∃ z, zs[i]? = some z ∧ e z H x) (hD : H1 D = none) (hz : zs.length < 1000000) (hG : ∀ H, Same H1 H → G H)
    (hs : ∀ (i : Nat) (z : α) (x : V) (H : Hp) (Qn : VK) (Qf : Hp → Prop), zs[i]? = some z → e z H x → Same H1 H → (∀ H' y, Same H H' → keep z = true → R H' y z → Qn y H') → (∀ H', Same H H' → keep z = false → Qf H') →
      g x (wipe σ vs) H fun σ2 H2 => wipe σ2 vs = wipe σ vs ∧ tt σ2 H2 fun b H3 => if b = true then te σ2 H3 Qn else Qf H3)
    (hd : ∀ H ys, Same H1 H → H D = some (.lst ys) → Al (R H) ys (zs.filter keep) → Qd H) :
    ∃ W : Nat → Nat → Hp → Prop, (∃ m, W 0 m (upd H1 D (.lst []))) ∧ ∀ i m H, W i m H →
      (J.stop i H ∧ Qd H) ∨ (J.go i H ∧ ∃ Nx : Hp → Prop, (∀ H', Nx H' → ∃ m', m' < m ∧ W (i + 1) m' H') ∧ ∀ x H', J.yld i H x H' → g x (wipe σ vs) H' fun σ2 H2 => wipe σ2 vs = wipe σ vs ∧ tt σ2 H2 fun b H3 =>
        if b = true then te σ2 H3 fun y H4 => ∃ acc, H4 D = some (.lst acc) ∧ acc.length < sizeLine ∧ Nx (upd H4 D (.lst (acc ++ [y]))) else Nx H3) := by
  subst hn
  refine lc_it w (fun i H => Same H1 H ∧ ∃ ys, H D = some (.lst ys) ∧ Al (R H) ys ((zs.take i).filter keep)) ⟨same_new hD, [], upd_same, by simp [Al]⟩ (fun i H _ p => hG H p.1) (fun i x H H' hi p y => ?_) (fun H p => ?_)
  · obtain ⟨sm, ys, hys, hal⟩ := p
    obtain ⟨rfl, z, hz1, hx⟩ := hy i H x H' sm y
    refine hs i z x _ _ _ hz1 hx sm (fun H2 y s2 hk hr => ⟨ys, s2 _ _ hys, ?_, same_mut (sm.trans s2) hD, ys ++ [y], upd_same, ?_⟩) (fun H2 s2 hk => ⟨sm.trans s2, ys, s2 _ _ hys, ?_⟩)
    · rw [line, hal.len]
      have := List.length_filter_le keep (zs.take i)
      rw [List.length_take] at this
      omega
    · rw [take_filter_succ hz1, if_pos hk]
      have kp : ∀ {o : HO}, Kp H2 (upd H2 D o) := fun {o} => Kp.mut (s2 _ _ hys) fun z => z
      exact al_snoc_of (hal.mono fun a b q => Rs _ _ _ _ ((Kp.of s2).trans kp) q) (Rs _ _ _ _ kp hr)
    · rw [take_filter_succ hz1, hk]
      simp only [Bool.false_eq_true, if_false, List.append_nil]
      exact hal.mono fun a b q => Rs _ _ _ _ (Kp.of s2) q
  · obtain ⟨sm, ys, hys, hal⟩ := p
    rw [List.take_length] at hal
    exact hd H ys sm hys hal
end
end K76
/-! text D2 -/
set_option Elab.async false
set_option linter.all false
set_option maxRecDepth 100000
set_option maxHeartbeats 4000000
namespace K76
open PySem PySem.Spec PyProof.Rows L2
/-! ### sorted texts; data -/
def leS (a b : Str) : Prop := a.cps.toList ≤ b.cps.toList
theorem leS_trans {a b c : Str} (h : leS a b) (k : leS b c) : leS a c := List.le_trans h k
theorem leS_anti {a b : Str} (h : leS a b) (k : leS b a) : a = b := str_ext (List.le_antisymm h k)
theorem rising_le : ∀ (r : List Str) (p : Str), risingS p r = true → (∀ x ∈ r, leS p x) ∧ r.Pairwise leS
  | [], _, _ => ⟨by simp, .nil⟩
  | x :: r, p, h => by
    unfold risingS at h
    rw [Bool.and_eq_true, ltCps_eq] at h
    obtain ⟨h1, h2⟩ := h
    have hp : leS p x := by
      have z : ¬ x.cps.toList < p.cps.toList := by simpa using h1
      exact z
    obtain ⟨i1, i2⟩ := rising_le r x h2
    refine ⟨fun y hy => ?_, List.Pairwise.cons i1 i2⟩
    rcases List.mem_cons.mp hy with rfl | hy
    · exact hp
    · exact leS_trans hp (i1 y hy)
theorem sorted_le {l : List Str} (h : sortedS l = true) : l.Pairwise leS := by
  cases l with
  | nil => exact .nil
  | cons x r =>
    obtain ⟨h1, h2⟩ := rising_le r x h
    exact .cons h1 h2
theorem perm_le : ∀ {l m : List Str}, l.Perm m → l.Pairwise leS → m.Pairwise leS → l = m
  | [], m, h, _, _ => (List.nil_perm.mp h).symm
  | x :: l, [], h, _, _ => absurd h.length_eq (by simp)
  | x :: l, y :: m, h, hl, hm => by
    have e : x = y := by
      have h1 : x ∈ y :: m := h.subset List.mem_cons_self
      have h2 : y ∈ x :: l := h.symm.subset List.mem_cons_self
      rcases List.mem_cons.mp h1 with e | h1
      · exact e
      rcases List.mem_cons.mp h2 with e | h2
      · exact e.symm
      exact leS_anti (List.rel_of_pairwise_cons hl h2) (List.rel_of_pairwise_cons hm h1)
    subst e
    rw [perm_le (List.Perm.cons_inv h) (List.Pairwise.of_cons hl) (List.Pairwise.of_cons hm)]
theorem sorted_uniq {l m : List Str} (h : l.Perm m) (hl : sortedS l = true) (hm : sortedS m = true) : l = m := perm_le h (sorted_le hl) (sorted_le hm)
def strO (s : Str) : Prop := PyData.strOk s = true
theorem lay_strs : ∀ {ss : List Str}, (∀ s ∈ ss, strO s) → PyData.canLayAll0 (ss.map PyData.str) = true ∧ PyData.depthAll (ss.map PyData.str) = 0
  | [], _ => ⟨by simp [PyData.canLayAll0], by simp [PyData.depthAll]⟩
  | s :: ss, h => by
    obtain ⟨h1, h2⟩ := lay_strs (ss := ss) fun x hx => h x (List.mem_cons_of_mem _ hx)
    have h0 : PyData.strOk s = true := h s List.mem_cons_self
    constructor
    · rw [List.map_cons, PyData.canLayAll0, h1, Bool.and_true, PyData.canLay0, h0]
    · rw [List.map_cons, PyData.depthAll, h2, PyData.depth]; rfl
theorem shaped_lst {ss : List Str} (h : ∀ s ∈ ss, strO s) : SeqAt.shaped (.list (ss.map .str)) = true := by
  obtain ⟨h1, h2⟩ := lay_strs h
  unfold SeqAt.shaped
  rw [PyData.canLay0, h1, PyData.depth, h2]
  rfl
theorem shaped_tup {ss : List Str} (h : ∀ s ∈ ss, strO s) : SeqAt.shaped (.tuple (ss.map .str)) = true := by
  obtain ⟨h1, h2⟩ := lay_strs h
  unfold SeqAt.shaped
  rw [PyData.canLay0, h1, PyData.depth, h2]
  rfl
theorem eqv_strs : ∀ (ss ts : List Str), PyData.eqvAll (ss.map PyData.str) (ts.map PyData.str) = decide (ss = ts)
  | [], [] => by simp [PyData.eqvAll]
  | [], _ :: _ => by simp [PyData.eqvAll]
  | _ :: _, [] => by simp [PyData.eqvAll]
  | s :: ss, t :: ts => by
    rw [List.map_cons, List.map_cons, PyData.eqvAll, eqv_strs ss ts, PyData.eqv]
    by_cases e : s = t
    · subst e; simp
    · simp [e]
theorem dp_strs {K : PySem.W.Frag} {H : Hp} : ∀ (ss : List Str), DpAll K H (ss.map V.str) (ss.map PyData.str)
  | [] => .nil
  | s :: ss => .cons (.str s) (dp_strs ss)
theorem nm_strO {n : Str} (h : ∀ c ∈ n.cps.toList, 97 ≤ c ∧ c ≤ 122) : strO n := by
  unfold strO PyData.strOk
  rw [Array.all_eq_true_iff_forall_mem]
  intro c hc
  have := h c (by simpa using hc)
  simp
  omega
theorem enc_strO {e : En Str} (h : ∀ n, e = .op n ∨ e = .cl n → ∀ c ∈ n.cps.toList, 97 ≤ c ∧ c ≤ 122) : strO (enc e) := by
  unfold strO PyData.strOk
  rw [Array.all_eq_true_iff_forall_mem]
  intro c hc
  have hc2 : c ∈ (enc e).cps.toList := by simpa using hc
  rw [enc_cps] at hc2
  cases e with
  | op n =>
    rcases List.mem_cons.mp hc2 with rfl | z
    · decide
    · have := h n (.inl rfl) c z; simp; omega
  | cl n =>
    rcases List.mem_cons.mp hc2 with rfl | z
    · decide
    · have := h n (.inr rfl) c z; simp; omega
theorem WdOk.strO {x : Wd Str} (h : WdOk x) : ∀ s ∈ Wd.nms x, strO s := fun s hs => nm_strO (h.nm s hs).2.2
theorem WdOk.rowO {x : Wd Str} (h : WdOk x) : ∀ s ∈ (Wd.row x).map enc, K76.strO s := fun s hs => by
  obtain ⟨e, he, rfl⟩ := List.mem_map.mp hs
  refine enc_strO fun n hn => ?_
  rcases hn with rfl | rfl
  · exact (h.nm n ((op_mem_row x n).mp he)).2.2
  · exact (h.nm n ((cl_mem_row x n).mp he)).2.2
theorem WdOk.short {x : Wd Str} (h : WdOk x) : ∀ n ∈ Wd.nms x, n.length ≤ 100 := fun n hn => by have := (h.nm n hn).2.1; omega
theorem WdOk.few {x : Wd Str} (h : WdOk x) : (Wd.nms x).length ≤ 1000 := by have := h.len; omega
end K76
namespace K76
open PySem PySem.Spec PyProof.Rows L2
/-! ### rules whose reading names the written part by itself (for use within comprehensions) -/
section
variable {X : Cx} {K : PySem.W.Frag}
theorem ix_tupK (h : X.K = K) : IxR X (rIxT K) := h ▸ ix_tup
theorem ix_listK (h : X.K = K) : IxR X (rIxL K) := h ▸ ix_list
theorem in_seqK (h : X.K = K) : OpR X (compareOp .In) (rIn K false) := h ▸ op_in_seq
theorem call_isiK2 (h : X.K = K) : CallR X (.builtin "isinstance") (rIsi K) := h ▸ call_isi
theorem sl_tupAK (h : X.K = K) : SlR X (rSlA K) := h ▸ sl_tupA
theorem pg_tupK {es : List Expr} {k : Nat} {t : TGs} {n : Nat} {pos : Pos} (h : X.K = K) (hc : X.calm = true) (hg : PGs X es t)
    (hn : (assignEach es X.env).length = n := by rfl) (hst : (assignEach es X.env).findIdx? (·.1) = none := by rfl) : PG X (.Tuple es k pos) (gTup K n t) := h ▸ pg_tup hc hg hn hst
end
end K76
namespace K76
open PySem PySem.Spec PyProof.Rows L2
theorem putlen {κ : Type} [DecidableEq κ] (c : List (κ × V)) (k : κ) (x : V) : (putK c k x).length ≤ c.length + 1 := by
  cases e : valV c k with
  | none => rw [putK_new x e]; simp
  | some v =>
    unfold putK
    rw [valV_any, e]
    simp
end K76
namespace K76
open PySem PySem.Spec PyProof.Rows L2
theorem nd_snd2 {α β : Type} {l : List (α × β)} (h : (l.map (·.1)).Nodup) {a : α} {b c : β} (h1 : (a, b) ∈ l) (h2 : (a, c) ∈ l) : b = c := by
  induction l with
  | nil => cases h1
  | cons z l ih =>
    rw [List.map_cons, List.nodup_cons] at h
    rcases List.mem_cons.mp h1 with e1 | e1 <;> rcases List.mem_cons.mp h2 with e2 | e2
    · rw [← e1] at e2; cases e2; rfl
    · rw [← e1] at h; exact absurd (List.mem_map_of_mem (f := (·.1)) e2) h.1
    · rw [← e2] at h; exact absurd (List.mem_map_of_mem (f := (·.1)) e1) h.1
    · exact ih h.2 e1 e2
end K76
/-! text D3 -/
set_option Elab.async false
set_option linter.all false
set_option maxRecDepth 100000
set_option maxHeartbeats 4000000
namespace K76
open PySem PySem.Spec PyProof.Rows L2
theorem valV_nd {κ : Type} [DecidableEq κ] {kvs : List (κ × V)} (h : (kvs.map (·.1)).Nodup) {k : κ} {v : V} (m : (k, v) ∈ kvs) : valV kvs k = some v := by
  induction kvs with
  | nil => cases m
  | cons z l ih =>
    rw [List.map_cons, List.nodup_cons] at h
    rcases List.mem_cons.mp m with e | m
    · subst e; exact valV_pos rfl
    · rw [valV_neg fun e => h.1 (e ▸ List.mem_map_of_mem (f := (·.1)) m)]
      exact ih h.2 m
theorem merge_nd : ∀ (kvs l : List (Key × V)), ((l ++ kvs).map (·.1)).Nodup → mergeK l kvs = l ++ kvs
  | [], l, _ => by rw [List.append_nil]; rfl
  | z :: r, l, h => by
    have hn : valV l z.1 = none := by
      cases e : valV l z.1 with
      | none => rfl
      | some v =>
        have h1 := valV_in e
        rw [List.map_append, List.map_cons, List.nodup_append] at h
        exact absurd rfl (h.2.2 _ h1 z.1 List.mem_cons_self)
    have h2 : mergeK l (z :: r) = mergeK (putK l z.1 z.2) r := rfl
    rw [h2, putK_new _ hn, merge_nd r (l ++ [(z.1, z.2)]) (by simpa using h)]
    simp
theorem al_paired {K : PySem.W.Frag} {α : Type} {R : Addr → α → Prop} : ∀ {ys : List V} {zs : List α}, Al (fun v z => ∃ t, v = .ref t ∧ R t z) ys zs → ∃ ps : List Addr, ys = ps.map V.ref ∧ Al R ps zs
  | [], [], _ => ⟨[], rfl, trivial⟩
  | _ :: _, _ :: _, h => by
    obtain ⟨⟨t, e, r⟩, h2⟩ := h
    obtain ⟨ps, e2, h3⟩ := al_paired (K := K) h2
    exact ⟨t :: ps, by rw [e, e2]; rfl, r, h3⟩
  | [], _ :: _, h => h.elim
  | _ :: _, [], h => h.elim
theorem paired_of {α β γ : Type} {R : α → β → Prop} {S : α → γ → Prop} {f : β → γ} (h0 : ∀ a b, R a b → S a (f b)) : ∀ {as : List α} {bs : List β}, Al R as bs → Paired S as (bs.map f)
  | [], [], _ => .nil
  | _ :: _, _ :: _, h => .cons (h0 _ _ h.1) (paired_of h0 h.2)
  | [], _ :: _, h => h.elim
  | _ :: _, [], h => h.elim
/-! ### right labels -/
theorem pos_order {v w : Wd Str} (ok : WdOk v) {F1 F2 : List (Tri Str)} {x y : Str} {p q : Option Str} {f g : Nat} (e : lensF v w = F1 ++ (x, p, f) :: F2) (hy : (y, q, g) ∈ F1) : posn v y < posn v x := by
  have h := pair_of_sub (F_sub (v := v) (w := w)) ok.nd
  rw [e, List.map_append, List.map_cons, List.pairwise_append] at h
  exact h.2.2 y (List.mem_map_of_mem (f := (·.1)) hy) x List.mem_cons_self
theorem right_pair {v w : Wd Str} (ok : WdOk v) (hp : ∀ x ∈ Wd.nms v, x ∈ Wd.nms w) {x y : Str} {p : Option Str} {f g : Nat} (hx : (x, p, f) ∈ lensF v w) (hy : (y, p, g) ∈ lensF v w) (hn : x ≠ y) (hl : f - 1 = g - 1) :
    decide (posn v x < posn v y) = !decide (posn w x < posn w y) := by
  have h1 := good_pos good_F hx
  have h2 := good_pos good_F hy
  have e : f = g := by omega
  subst e
  obtain ⟨F1, F2, e1⟩ := List.append_of_mem hx
  rw [e1] at hy
  rcases List.mem_append.mp hy with hy | hy
  · have a := pos_order ok e1 hy
    have b := F_right ok.nd hp e1 hy
    rw [decide_eq_false (by omega), decide_eq_true (by omega)]; rfl
  · rcases List.mem_cons.mp hy with hy | hy
    · cases hy; exact absurd rfl hn
    · obtain ⟨G1, G2, e2⟩ := List.append_of_mem hy
      have e3 : lensF v w = (F1 ++ (x, p, f) :: G1) ++ (y, p, f) :: G2 := by rw [e1, e2]; simp
      have hm : (x, p, f) ∈ F1 ++ (x, p, f) :: G1 := List.mem_append_right _ List.mem_cons_self
      have a := pos_order ok e3 hm
      have b := F_right ok.nd hp e3 hm
      rw [decide_eq_true (by omega), decide_eq_false (by omega)]; rfl
end K76
namespace K76
open PySem PySem.Spec PyProof.Rows L2
theorem al_strs {α : Type} {f : α → Str} : ∀ {ys : List V} {zs : List α}, Al (fun v z => v = V.str (f z)) ys zs → ys = (zs.map f).map V.str
  | [], [], _ => rfl
  | _ :: _, _ :: _, h => by rw [h.1, al_strs h.2]; rfl
  | [], _ :: _, h => h.elim
  | _ :: _, [], h => h.elim
end K76
/-! text W1 -/
set_option Elab.async false
set_option linter.all false
set_option maxRecDepth 100000
set_option maxHeartbeats 4000000
namespace K76
open PySem PySem.Spec PyProof.Rows L2
def spBegin : Sp := fun vs H Q _ => ∃ n : Str, vs = [.str n] ∧ n.length ≤ 100 ∧ Q (eV (.op n)) H
def spEnd : Sp := fun vs H Q _ => ∃ n : Str, vs = [.str n] ∧ n.length ≤ 100 ∧ Q (eV (.cl n)) H
def spSpan (K : PySem.W.Frag) : Sp := fun vs H Q _ => ∃ (a : Addr) (l : List (En Str)) (n : Str), vs = [.ref a, .str n] ∧ n.length ≤ 100 ∧ TX H a (RowV l) ∧ En.op n ∈ l ∧ En.cl n ∈ l ∧
  NewT K H [.int ((l.idxOf (.op n) : Nat) : Int), .int ((l.idxOf (.cl n) : Nat) + 1 : Int)] Q
def spThere : Sp := fun vs H Q _ => ∃ (a : Addr) (l : List (En Str)) (n : Str), vs = [.ref a, .str n] ∧ n.length ≤ 100 ∧ TX H a (RowV l) ∧ Ans H (.bl (decide (En.op n ∈ l))) Q
def spWithin : Sp := fun vs H Q _ => ∃ (a : Addr) (l : List (En Str)) (n m : Str), vs = [.ref a, .str n, .str m] ∧ n.length ≤ 100 ∧ m.length ≤ 100 ∧ TX H a (RowV l) ∧ En.op m ∈ l ∧ En.cl m ∈ l ∧ Ans H (.bl (decide (En.op n ∈ blkOf l m))) Q
section
variable {P : Program} {w : World} {K : PySem.W.Frag} {mg : Str → Option Value} {base : Heap}
abbrev N_begin_of : List Str := ["name"]
theorem sc_begin_of : FnScope N_begin_of ["name"] (defScope (top 4)) := ⟨rfl, rfl, rfl, by decide +kernel, rfl, by decide +kernel, by decide +kernel⟩
theorem cal_begin_of (T : Tp K mg) (F : Fnn K mg "begin_of" 4)   : Cal P w K mg base 1 "begin_of" spBegin := by
  have nd := sc_begin_of.nd
  refine cal F (fun _ _ _ _ _ _ us hl => match us, hl with | [_], _ => rfl) sc_begin_of (fun vs H Q E h => by obtain ⟨n, rfl, hn, q⟩ := h; rfl) (fun f cdv A outer s H vs Q E hr h => ?_)
  have hu := hu_of hr
  refine ⟨_, (pss_one (ps_ret (pe_op op_add_str pe_str (pv 0)))), ?_⟩
  obtain ⟨n, rfl, hn, q⟩ := h
  refine ⟨_, rfl, _, _, rfl, rfl, ?_, q⟩
  rw [line]
  show 1 + n.length ≤ _
  omega
abbrev N_end_of : List Str := ["name"]
theorem sc_end_of : FnScope N_end_of ["name"] (defScope (top 5)) := ⟨rfl, rfl, rfl, by decide +kernel, rfl, by decide +kernel, by decide +kernel⟩
theorem cal_end_of (T : Tp K mg) (F : Fnn K mg "end_of" 5)   : Cal P w K mg base 1 "end_of" spEnd := by
  have nd := sc_end_of.nd
  refine cal F (fun _ _ _ _ _ _ us hl => match us, hl with | [_], _ => rfl) sc_end_of (fun vs H Q E h => by obtain ⟨n, rfl, hn, q⟩ := h; rfl) (fun f cdv A outer s H vs Q E hr h => ?_)
  have hu := hu_of hr
  refine ⟨_, (pss_one (ps_ret (pe_op op_add_str pe_str (pv 0)))), ?_⟩
  obtain ⟨n, rfl, hn, q⟩ := h
  refine ⟨_, rfl, _, _, rfl, rfl, ?_, q⟩
  rw [line]
  show 1 + n.length ≤ _
  omega
abbrev N_span : List Str := ["row", "name"]
theorem sc_span : FnScope N_span ["row", "name"] (defScope (top 6)) := ⟨rfl, rfl, rfl, by decide +kernel, rfl, by decide +kernel, by decide +kernel⟩
theorem cal_span (T : Tp K mg) (F : Fnn K mg "span" 6)  (c_begin_of : Cal P w K mg base 1 "begin_of" spBegin) (c_end_of : Cal P w K mg base 1 "end_of" spEnd) : Cal P w K mg base 2 "span" (spSpan K) := by
  have nd := sc_span.nd
  refine cal F (fun _ _ _ _ _ _ us hl => match us, hl with | [_, _], _ => rfl) sc_span (fun vs H Q E h => by obtain ⟨a, l, n, rfl, hn, hx, h1, h2, q⟩ := h; rfl) (fun f cdv A outer s H vs Q E hr h => ?_)
  have hu := hu_of hr
  refine ⟨_, (pss_one (ps_ret (pe_tup (pa_cons (pe_tidx mt_tup_index (pv 0) (pe_cc c_begin_of hr (by decide) (by rfl) (pa_cons (pv 1) pa_nil))) (pa_cons (pe_op op_add (pe_tidx mt_tup_index (pv 0) (pe_cc c_end_of hr (by decide) (by rfl) (pa_cons (pv 1) pa_nil))) pe_int) pa_nil))))), ?_⟩
  obtain ⟨a, l, n, rfl, hn, hx, h1, h2, q⟩ := h
  refine ⟨_, rfl, ⟨_, _, rfl, hx⟩, ⟨_, rfl, n, rfl, hn, a, l.map enc, _, _, rfl, rfl, hx.sq, idx_get h1, idx_no h1, ?_⟩⟩
  refine ⟨_, rfl, ⟨_, _, rfl, hx⟩, ⟨_, rfl, n, rfl, hn, a, l.map enc, _, _, rfl, rfl, hx.sq, idx_get h2, idx_no h2, ?_⟩⟩
  exact ⟨_, _, rfl, rfl, by show 2 ≤ sizeLine; decide, new_sq q⟩
abbrev N_is_there : List Str := ["row", "name"]
theorem sc_is_there : FnScope N_is_there ["row", "name"] (defScope (top 7)) := ⟨rfl, rfl, rfl, by decide +kernel, rfl, by decide +kernel, by decide +kernel⟩
theorem cal_is_there (T : Tp K mg) (F : Fnn K mg "is_there" 7)  (c_begin_of : Cal P w K mg base 1 "begin_of" spBegin) : Cal P w K mg base 2 "is_there" spThere := by
  have nd := sc_is_there.nd
  refine cal F (fun _ _ _ _ _ _ us hl => match us, hl with | [_, _], _ => rfl) sc_is_there (fun vs H Q E h => by obtain ⟨a, l, n, rfl, hn, hx, q⟩ := h; rfl) (fun f cdv A outer s H vs Q E hr h => ?_)
  have hu := hu_of hr
  refine ⟨_, (pss_one (ps_ret (pe_cmpR op_in_seq (pe_cc c_begin_of hr (by decide) (by rfl) (pa_cons (pv 1) pa_nil)) (pv 0) rfl))), ?_⟩
  obtain ⟨a, l, n, rfl, hn, hx, q⟩ := h
  refine ⟨_, rfl, n, rfl, hn, _, rfl, a, _, rfl, .inr hx.sq, rfl, flat_all _, ?_⟩
  rw [in_row]
  exact q H (Same.refl H)
abbrev N_is_within : List Str := ["row", "name", "other", "first", "behind"]
theorem sc_is_within : FnScope N_is_within ["row", "name", "other"] (defScope (top 8)) := ⟨rfl, rfl, rfl, by decide +kernel, rfl, by decide +kernel, by decide +kernel⟩
theorem cal_is_within (T : Tp K mg) (F : Fnn K mg "is_within" 8)  (c_span : Cal P w K mg base 2 "span" (spSpan K)) (c_begin_of : Cal P w K mg base 1 "begin_of" spBegin) : Cal P w K mg base 3 "is_within" spWithin := by
  have nd := sc_is_within.nd
  refine cal F (fun _ _ _ _ _ _ us hl => match us, hl with | [_, _, _], _ => rfl) sc_is_within (fun vs H Q E h => by obtain ⟨a, l, n, m, rfl, hn, hm, hx, h1, h2, q⟩ := h; rfl) (fun f cdv A outer s H vs Q E hr h => ?_)
  have hu := hu_of hr
  refine ⟨_, (pss_cons (ps_asg (pe_cc c_span hr (by decide) (by rfl) (pa_cons (pv 0) (pa_cons (pv 2) pa_nil))) (pg_tup rfl (pgs_cons (pg_name (i := 3) nd rfl (.inl rfl)) (pgs_cons (pg_name (i := 4) nd rfl (.inl rfl)) pgs_nil))))
      (pss_one (ps_ret (pe_cmpR op_in_seq (pe_cc c_begin_of hr (by decide) (by rfl) (pa_cons (pv 1) pa_nil)) (pe_slice sl_tupX (pv 0) (po_some (pv 3)) (po_some (pv 4))) rfl)))), ?_⟩
  obtain ⟨a, l, n, m, rfl, hn, hm, hx, h1, h2, q⟩ := h
  refine ⟨_, rfl, _, rfl, a, l, m, rfl, hm, hx, h1, h2, fun p H1 s1 ht => ?_⟩
  refine ⟨p, _, rfl, ht, rfl, _, _, rfl, _, _, rfl, rfl, ?_⟩
  refine ⟨_, rfl, n, rfl, hn, _, rfl, _, rfl, _, rfl, _, rfl, _, rfl, ?_⟩
  have e1 := List.idxOf_lt_length_of_mem h1
  have e2 := List.idxOf_lt_length_of_mem h2
  refine ⟨a, _, rfl, hx.same s1, fun p2 H2 s2 hx2 => ?_⟩
  have e : cutV (RowV l) (some ((l.idxOf (.op m) : Nat) : Int)) (some ((l.idxOf (.cl m) : Nat) + 1 : Int)) = RowV (blkOf l m) := by
    have z := RowV_cut l (i := l.idxOf (.op m)) (j := l.idxOf (.cl m) + 1) (by omega) (by omega)
    rw [show (((l.idxOf (.cl m) + 1 : Nat) : Int)) = ((l.idxOf (.cl m) : Nat) + 1 : Int) by omega] at z
    rw [z]
    unfold blkOf
    rw [List.drop_take]
  rw [e] at hx2
  refine ⟨p2, _, rfl, .inr hx2.sq, rfl, flat_all _, ?_⟩
  rw [in_row]
  exact q H2 (s1.trans s2)
end
end K76
/-! text W2 -/
set_option Elab.async false
set_option linter.all false
set_option maxRecDepth 100000
set_option maxHeartbeats 4000000
namespace K76
open PySem PySem.Spec PyProof.Rows L2
/-- a move's names are short -/
def Shrt (d : Mv Str) : Prop := d.a.length ≤ 100 ∧ d.b.length ≤ 100
theorem mv0 (d : Mv Str) : atI (mvV d) 0 = some (.str (wTxt d.w)) := by
  refine atI_nat (j := 0) ?_
  unfold mvV mvS
  split <;> rfl
theorem mv1 (d : Mv Str) : atI (mvV d) 1 = some (.str d.a) := by
  refine atI_nat (j := 1) ?_
  unfold mvV mvS
  split <;> rfl
theorem mv2 (d : Mv Str) (h : needB d.w = true) : atI (mvV d) 2 = some (.str d.b) := by
  refine atI_nat (j := 2) ?_
  unfold mvV mvS
  rw [if_pos h]
  rfl
def spOld (K : PySem.W.Frag) : Sp := fun vs H Q _ => ∃ (a : Addr) (d : Mv Str), vs = [.ref a] ∧ SqT K H a (mvV d) ∧ NewT K H ((mvS d).tail.map V.str) Q
def spNew (K : PySem.W.Frag) : Sp := fun vs H Q _ => ∃ (a : Addr) (d : Mv Str), vs = [.ref a] ∧ SqT K H a (mvV d) ∧ NewT K H [] Q
def spStop (K : PySem.W.Frag) : Sp := fun vs H Q _ => ∃ (r a : Addr) (x : Wd Str) (d : Mv Str), vs = [.ref r, .ref a] ∧ TX H r (RowV (Wd.row x)) ∧ SqT K H a (mvV d) ∧ Shrt d ∧
  (∀ H' (z : Str), Same H H' → PyData.strOk z = true → stops (Wd.row x) d = true → Q (.str z) H') ∧ (∀ H', Same H H' → stops (Wd.row x) d = false → Q .non H')
theorem wne {w : Wrd} {s : Str} (h : s ∉ (["first", "last", "ahead", "behind", "front", "back"] : List Str)) : wTxt w ≠ s := by
  intro e
  subst e
  revert h
  cases w <;> decide
theorem stops_of {l : List (En Str)} {d : Mv Str} (h : ((mvS d).tail.all fun n => decide (En.op n ∈ l)) = false) : stops l d = true := by
  unfold stops
  unfold mvS at h
  by_cases nb : needB d.w = true
  · rw [if_pos nb] at h
    rw [nb]
    have h2 : (decide (En.op d.a ∈ l) && (decide (En.op d.b ∈ l) && true)) = false := h
    generalize decide (En.op d.a ∈ l) = A at h2 ⊢
    generalize decide (En.op d.b ∈ l) = B at h2 ⊢
    cases A <;> cases B <;> simp at h2 ⊢
  · rw [if_neg nb] at h
    have h2 : (decide (En.op d.a ∈ l) && true) = false := h
    generalize decide (En.op d.a ∈ l) = A at h2 ⊢
    cases A <;> simp at h2 ⊢
section
variable {P : Program} {w : World} {K : PySem.W.Frag} {mg : Str → Option Value} {base : Heap}
abbrev N_old_of : List Str := ["deed"]
theorem sc_old_of : FnScope N_old_of ["deed"] (defScope (top 9)) := ⟨rfl, rfl, rfl, by decide +kernel, rfl, by decide +kernel, by decide +kernel⟩
theorem cal_old_of (T : Tp K mg) (F : Fnn K mg "old_of" 9)   : Cal P w K mg base 1 "old_of" (spOld K) := by
  have nd := sc_old_of.nd
  refine cal F (fun _ _ _ _ _ _ us hl => match us, hl with | [_], _ => rfl) sc_old_of (fun vs H Q E h => by obtain ⟨a, d, rfl, hx, q⟩ := h; rfl) (fun f cdv A outer s H vs Q E hr h => ?_)
  have hu := hu_of hr
  refine ⟨_, (pss_cons (ps_if (pt_cmpR op_eq (pe_ix ix_tup (pv 0) pe_int (fun _ _ => rfl)) pe_str (nomark _)) (pss_one (ps_ret (pe_tup (pa_cons (pe_ix ix_tup (pv 0) pe_int (fun _ _ => rfl)) pa_nil)))) pss_nil)
      (pss_cons (ps_if (pt_cmpR op_eq (pe_ix ix_tup (pv 0) pe_int (fun _ _ => rfl)) pe_str (nomark _)) (pss_one (ps_ret (pe_tup (pa_cons (pe_ix ix_tup (pv 0) pe_int (fun _ _ => rfl)) pa_nil)))) pss_nil)
      (pss_one (ps_ret (pe_slice sl_tupA (pv 0) (po_some pe_int) po_none))))), ?_⟩
  obtain ⟨a, d, rfl, hx, q⟩ := h
  refine ⟨_, rfl, a, _, _, _, rfl, rfl, hx, mv0 d, rfl, _, rfl, ifN (wne (by decide)) ?_⟩
  refine ⟨_, rfl, a, _, _, _, rfl, rfl, hx, mv0 d, rfl, _, rfl, ifN (wne (by decide)) ?_⟩
  have e : cutV (mvV d) (some 1) none = (mvS d).tail.map V.str := by
    unfold mvV mvS
    split <;> rfl
  refine ⟨_, rfl, _, rfl, a, _, rfl, hx, fun z => ?_, fun _ => by rw [e]; exact new_sq q⟩
  exact absurd z.1 (by unfold mvV mvS; split <;> exact fun h => nomatch h)
abbrev N_new_of : List Str := ["deed"]
theorem sc_new_of : FnScope N_new_of ["deed"] (defScope (top 10)) := ⟨rfl, rfl, rfl, by decide +kernel, rfl, by decide +kernel, by decide +kernel⟩
theorem cal_new_of (T : Tp K mg) (F : Fnn K mg "new_of" 10)   : Cal P w K mg base 1 "new_of" (spNew K) := by
  have nd := sc_new_of.nd
  refine cal F (fun _ _ _ _ _ _ us hl => match us, hl with | [_], _ => rfl) sc_new_of (fun vs H Q E h => by obtain ⟨a, d, rfl, hx, q⟩ := h; rfl) (fun f cdv A outer s H vs Q E hr h => ?_)
  have hu := hu_of hr
  refine ⟨_, (pss_cons (ps_if (pt_cmpR op_eq (pe_ix ix_tup (pv 0) pe_int (fun _ _ => rfl)) pe_str (nomark _)) (pss_one (ps_ret (pe_tup (pa_cons (pe_ix ix_tup (pv 0) pe_int (fun _ _ => rfl)) pa_nil)))) pss_nil)
      (pss_one (ps_ret (pe_ifExp (pt_cmpR op_eq (pe_ix ix_tup (pv 0) pe_int (fun _ _ => rfl)) pe_str (nomark _)) (pe_tup (pa_cons (pe_ix ix_tup (pv 0) pe_int (fun _ _ => rfl)) pa_nil)) (pe_tup pa_nil))))), ?_⟩
  obtain ⟨a, d, rfl, hx, q⟩ := h
  refine ⟨_, rfl, a, _, _, _, rfl, rfl, hx, mv0 d, rfl, _, rfl, ifN (wne (by decide)) ?_⟩
  refine ⟨_, rfl, a, _, _, _, rfl, rfl, hx, mv0 d, rfl, _, rfl, ifN (wne (by decide)) ?_⟩
  exact ⟨by decide, new_sq q⟩
abbrev N_stop_of : List Str := ["row", "deed", "name", "word"]
theorem sc_stop_of : FnScope N_stop_of ["row", "deed"] (defScope (top 11)) := ⟨rfl, rfl, rfl, by decide +kernel, rfl, by decide +kernel, by decide +kernel⟩
theorem cal_stop_of (T : Tp K mg) (F : Fnn K mg "stop_of" 11)  (c_old_of : Cal P w K mg base 1 "old_of" (spOld K)) (c_is_there : Cal P w K mg base 2 "is_there" spThere) (c_new_of : Cal P w K mg base 1 "new_of" (spNew K)) (c_is_within : Cal P w K mg base 3 "is_within" spWithin) : Cal P w K mg base 4 "stop_of" (spStop K) := by
  have nd := sc_stop_of.nd
  refine cal F (fun _ _ _ _ _ _ us hl => match us, hl with | [_, _], _ => rfl) sc_stop_of (fun vs H Q E h => by obtain ⟨r, a, x, d, rfl, hr1, ha, hd, qs, qn⟩ := h; rfl) (fun f cdv A outer s H vs Q E hr h => ?_)
  have hu := hu_of hr
  refine ⟨_, (pss_cons (ps_if (pt_not (pt_val (pe_callB (cr_all rfl) (by rfl) T.b_all (by decide +kernel) (pa_cons (pe_lc (own := [("name", 2)]) rfl nd (pi_tup (pe_cc c_old_of hr (by decide) (by rfl) (pa_cons (pv 1) pa_nil))) (blkOk_by (own := [("name", 2)]) (N := N_stop_of) (sc := defScope (top 11)) (by decide +kernel)) (fun _ _ _ _ _ => (pg_name (i := 2) nd rfl (.inl rfl))) (fun _ _ _ _ _ => pts_nil) (fun _ _ _ _ _ => (pe_cc c_is_there hr (by decide) (by rfl) (pa_cons (pv 0) (pa_cons (pv 2) pa_nil))))) pa_nil)))) (pss_one (ps_ret pe_str)) pss_nil)
      (pss_cons (ps_if (pt_val (pe_callB (cr_any rfl) (by rfl) T.b_any (by decide +kernel) (pa_cons (pe_lc (own := [("name", 2)]) rfl nd (pi_tup (pe_cc c_new_of hr (by decide) (by rfl) (pa_cons (pv 1) pa_nil))) (blkOk_by (own := [("name", 2)]) (N := N_stop_of) (sc := defScope (top 11)) (by decide +kernel)) (fun _ _ _ _ _ => (pg_name (i := 2) nd rfl (.inl rfl))) (fun _ _ _ _ _ => pts_nil) (fun _ _ _ _ _ => (pe_cc c_is_there hr (by decide) (by rfl) (pa_cons (pv 0) (pa_cons (pv 2) pa_nil))))) pa_nil))) (pss_one (ps_ret pe_str)) pss_nil)
      (pss_cons (ps_set (i := 3) nd rfl (.inl rfl) (pe_ix ix_tup (pv 1) pe_int (fun _ _ => rfl)))
      (pss_cons (ps_if (PW.pt (pw_and (pt_cmpR op_in_seq (pv 3) (pe_tup (pa_cons pe_str (pa_cons pe_str (pa_cons pe_str (pa_cons pe_str (pa_cons pe_str pa_nil)))))) rfl) (pw_and1 (pt_val (pe_cc c_is_within hr (by decide) (by rfl) (pa_cons (pv 0) (pa_cons (pe_ix ix_tup (pv 1) pe_int (fun _ _ => rfl)) (pa_cons (pe_ix ix_tup (pv 1) pe_int (fun _ _ => rfl)) pa_nil)))))))) (pss_one (ps_ret pe_str)) pss_nil)
      (pss_cons (ps_if (PW.pt (pw_and (pt_cmpR op_eq (pv 3) pe_str (nomark _)) (pw_and1 (PW.pt (pw_or (pt_val (pe_cc c_is_within hr (by decide) (by rfl) (pa_cons (pv 0) (pa_cons (pe_ix ix_tup (pv 1) pe_int (fun _ _ => rfl)) (pa_cons (pe_ix ix_tup (pv 1) pe_int (fun _ _ => rfl)) pa_nil))))) (pw_or1 (pt_val (pe_cc c_is_within hr (by decide) (by rfl) (pa_cons (pv 0) (pa_cons (pe_ix ix_tup (pv 1) pe_int (fun _ _ => rfl)) (pa_cons (pe_ix ix_tup (pv 1) pe_int (fun _ _ => rfl)) pa_nil))))))))))) (pss_one (ps_ret pe_str)) pss_nil)
      (pss_one (ps_ret pe_non))))))), ?_⟩
  obtain ⟨r, a, x, d, rfl, hr1, ha, hd, qs, qn⟩ := h
  refine ⟨_, rfl, a, d, rfl, ha, fun p H1 s1 ht => ⟨p, rfl, ⟨_, ht⟩, fun D hD => ?_⟩⟩
  refine lc_mapK (mvS d).tail V.str (fun n => .bl (decide (En.op n ∈ Wd.row x))) (fun _ => true) (walk_tup (K := K) (a := p) (xs := (mvS d).tail.map V.str)) (by simp) (yat _ _) hD ?_ (fun H s => sameT s ht) ?_ ?_
  · unfold mvS; split <;> exact Nat.lt_of_lt_of_le (Nat.lt_succ_self _) (by simp)
  · intro i n H2 Qn Qf hi s2 k1 k2
    refine ⟨rfl, _, rfl, _, rfl, r, _, n, rfl, ?_, hr1.same (s1.trans s2), fun H3 s3 => k1 H3 s3 rfl⟩
    have : n ∈ (mvS d).tail := List.mem_of_getElem? hi
    unfold mvS at this
    obtain ⟨h1, h2⟩ := hd
    split at this <;> simp at this
    · rcases this with rfl | rfl <;> assumption
    · subst this; exact h1
  intro H2 s2 hl
  rw [flt_all, map_bl] at hl
  refine ⟨D, _, rfl, .inl (.inl hl), _, rfl, ?_⟩
  rw [all_id]
  have s02 := s1.trans s2
  refine ifB (fun hg => ?_) (fun hg => ?_)
  · refine qs H2 _ s02 (by decide +kernel) ?_
    exact stops_of (by simpa using hg)
  have ha2 := sameT s02 ha
  have hall : En.op d.a ∈ Wd.row x ∧ (needB d.w = true → En.op d.b ∈ Wd.row x) := by
    unfold mvS at hg
    by_cases nb : needB d.w = true
    · rw [if_pos nb] at hg
      simp at hg
      exact ⟨hg.1, fun _ => hg.2⟩
    · rw [if_neg nb] at hg
      simp at hg
      exact ⟨hg, fun z => absurd z nb⟩
  refine ⟨_, rfl, a, d, rfl, ha2, fun p2 H3 s3 ht2 => ⟨p2, rfl, ⟨_, ht2⟩, fun D2 hD2 => ?_⟩⟩
  refine lc_mapK ([] : List Str) V.str (fun n => .bl true) (fun _ => true) (walk_tup (K := K) (a := p2) (xs := [])) (by simp) (yat _ _) hD2 (by decide) (fun H s => sameT s ht2) (fun i n H2 Qn Qf hi => nomatch hi) ?_
  intro H4 s4 hl4
  refine ⟨D2, [], rfl, .inl (.inl hl4), _, rfl, iteF ?_⟩
  have s04 := (s02.trans s3).trans s4
  refine ⟨_, rfl, a, _, _, _, rfl, rfl, sameT s04 ha, mv0 d, ?_⟩
  refine ⟨_, rfl, by show 5 ≤ sizeLine; decide, fun p5 hp5 => ⟨p5, _, rfl, .inr (.inl (.inl upd_same)), rfl, rfl, _, rfl, ?_⟩⟩
  have s05 : ∀ {o : HO}, Same H (upd H4 p5 o) := fun {o} => s04.trans (same_new hp5)
  have hin : inV (V.str (wTxt d.w)) [V.str "first", V.str "last", V.str "ahead", V.str "behind", V.str "pour"] = needB d.w := by cases d.w <;> rfl
  have hstop : stops (Wd.row x) d = (needB d.w && decide (En.op d.b ∈ blkOf (Wd.row x) d.a)) := by
    unfold stops
    rw [decide_eq_true hall.1]
    by_cases nb : needB d.w = true
    · rw [decide_eq_true (hall.2 nb)]; simp
    · simp [nb]
  refine ifE _ hin ?_
  refine ifB (fun nb => ?_) (fun nb => ?_)
  · refine ⟨_, rfl, _, rfl, a, _, _, _, rfl, rfl, sameT s05 ha, mv2 d nb, ?_⟩
    refine ⟨_, rfl, a, _, _, _, rfl, rfl, sameT s05 ha, mv1 d, ?_⟩
    refine ⟨r, _, d.b, d.a, rfl, hd.2, hd.1, hr1.same s05, hall.1, (cl_mem_row x d.a).mpr ((op_mem_row x d.a).mp hall.1), fun H6 s6 => ⟨_, rfl, ?_⟩⟩
    have s06 := s05.trans s6
    refine ifB (fun hb => qs _ _ s06 (by decide +kernel) (by rw [hstop, nb, hb]; rfl)) (fun hb => ?_)
    refine ⟨_, rfl, rfl, _, rfl, ifN (wne (by decide)) (iteF ?_)⟩
    exact qn _ s06 (by rw [hstop, hb]; simp)
  · refine iteF ⟨_, rfl, rfl, _, rfl, ifN (wne (by decide)) (iteF ?_)⟩
    exact qn _ s05 (by rw [hstop, nb]; rfl)
end
end K76
/-! text W3 -/
set_option Elab.async false
set_option linter.all false
set_option maxRecDepth 100000
set_option maxHeartbeats 4000000
namespace K76
open PySem PySem.Spec PyProof.Rows L2
theorem len_pos {l : List (En Str)} {e : En Str} (h : e ∈ l) : l.idxOf e + 1 ≤ l.length := List.idxOf_lt_length_of_mem h
theorem cast1 (n : Nat) : ((n + 1 : Nat) : Int) = (n : Int) + 1 := by omega
def spMovedK (K : PySem.W.Frag) : Sp := fun vs H Q _ => ∃ (r a : Addr) (x : Wd Str) (d : Mv Str) (l : List (En Str)), vs = [.ref r, .ref a] ∧ TX H r (RowV (Wd.row x)) ∧ SqT K H a (mvV d) ∧ Shrt d ∧
  mvd (Wd.row x) d = some l ∧ (Wd.row x).length ≤ 100000 ∧ NewR H l Q
theorem mvd_some {l m : List (En Str)} {d : Mv Str} (h : mvd l d = some m) : En.op d.a ∈ l ∧ ∃ t, place (restOf l d.a) d = some t ∧ m = (restOf l d.a).take t ++ blkOf l d.a ++ (restOf l d.a).drop t := by
  unfold mvd at h
  by_cases ha : En.op d.a ∈ l
  · rw [if_pos ha] at h
    cases q : place (restOf l d.a) d with
    | none => rw [q] at h; cases h
    | some t => rw [q] at h; exact ⟨ha, t, rfl, (Option.some.inj h).symm⟩
  · rw [if_neg ha] at h; cases h
theorem place_le {r : List (En Str)} {d : Mv Str} {t : Nat} (h : place r d = some t) : t ≤ r.length := by
  unfold place at h
  have z : ∀ e, (if e ∈ r then some (r.idxOf e + wAft d.w) else none) = some t → t ≤ r.length := fun e q => by
    by_cases he : e ∈ r
    · rw [if_pos he] at q
      have := len_pos he
      have e2 := Option.some.inj q
      have : wAft d.w ≤ 1 := by cases d.w <;> decide
      omega
    · rw [if_neg he] at q; cases q
  cases e : d.w <;> rw [e] at h
  all_goals first
    | (have := Option.some.inj h; omega)
    | (rw [e] at z; exact z _ h)
theorem place_at {r : List (En Str)} {d : Mv Str} {t : Nat} (h : place r d = some t) (hb : needB d.w = true) : wEnd d.w d.b ∈ r ∧ t = r.idxOf (wEnd d.w d.b) + wAft d.w := by
  unfold place at h
  cases e : d.w <;> rw [e] at h hb
  all_goals first
    | (exact absurd hb (by decide))
    | (by_cases he : wEnd d.w d.b ∈ r
       · rw [e] at he; simp only [if_pos he] at h; exact ⟨he, (Option.some.inj h).symm⟩
       · rw [e] at he; simp only [if_neg he] at h; cases h)
theorem wT_inj {a b : Wrd} (h : wTxt a = wTxt b) : a = b := by
  revert h
  cases a <;> cases b <;> decide
section
variable {P : Program} {w : World} {K : PySem.W.Frag} {mg : Str → Option Value} {base : Heap}
abbrev N_moved : List Str := ["row", "deed", "first", "behind", "block", "rest", "word", "at"]
theorem sc_moved : FnScope N_moved ["row", "deed"] (defScope (top 12)) := ⟨rfl, rfl, rfl, by decide +kernel, rfl, by decide +kernel, by decide +kernel⟩
theorem cal_moved (T : Tp K mg) (F : Fnn K mg "moved" 12)  (c_span : Cal P w K mg base 2 "span" (spSpan K)) (c_begin_of : Cal P w K mg base 1 "begin_of" spBegin) (c_end_of : Cal P w K mg base 1 "end_of" spEnd) : Cal P w K mg base 3 "moved" ((spMovedK K)) := by
  have nd := sc_moved.nd
  refine cal F (fun _ _ _ _ _ _ us hl => match us, hl with | [_, _], _ => rfl) sc_moved (fun vs H Q E h => by obtain ⟨r, a, x, d, l, rfl, hx, ha, hd, hm, hlen, q⟩ := h; rfl) (fun f cdv A outer s H vs Q E hr h => ?_)
  have hu := hu_of hr
  refine ⟨_, (pss_cons (ps_asg (pe_cc c_span hr (by decide) (by rfl) (pa_cons (pv 0) (pa_cons (pe_ix ix_tup (pv 1) pe_int (fun _ _ => rfl)) pa_nil))) (pg_tup rfl (pgs_cons (pg_name (i := 2) nd rfl (.inl rfl)) (pgs_cons (pg_name (i := 3) nd rfl (.inl rfl)) pgs_nil))))
      (pss_cons (ps_set (i := 4) nd rfl (.inl rfl) (pe_slice sl_tupX (pv 0) (po_some (pv 2)) (po_some (pv 3))))
      (pss_cons (ps_set (i := 5) nd rfl (.inl rfl) (pe_op op_catX (pe_slice sl_tupX (pv 0) po_none (po_some (pv 2))) (pe_slice sl_tupX (pv 0) (po_some (pv 3)) po_none)))
      (pss_cons (ps_set (i := 6) nd rfl (.inl rfl) (pe_ix ix_tup (pv 1) pe_int (fun _ _ => rfl)))
      (C8.pss_cut (ps_if (pt_cmpR op_eq (pv 6) pe_str (nomark _)) (pss_one (ps_set (i := 7) nd rfl (.inl rfl) pe_int)) (pss_one (ps_if (pt_cmpR op_eq (pv 6) pe_str (nomark _)) (pss_one (ps_set (i := 7) nd rfl (.inl rfl) (pe_callB call_len (by rfl) T.b_len (by decide +kernel) (pa_cons (pv 5) pa_nil)))) (pss_one (ps_if (pt_cmpR op_eq (pv 6) pe_str (nomark _)) (pss_one (ps_set (i := 7) nd rfl (.inl rfl) (pe_op op_add (pe_tidx mt_tup_index (pv 5) (pe_cc c_begin_of hr (by decide) (by rfl) (pa_cons (pe_ix ix_tup (pv 1) pe_int (fun _ _ => rfl)) pa_nil))) pe_int))) (pss_one (ps_if (pt_cmpR op_eq (pv 6) pe_str (nomark _)) (pss_one (ps_set (i := 7) nd rfl (.inl rfl) (pe_tidx mt_tup_index (pv 5) (pe_cc c_end_of hr (by decide) (by rfl) (pa_cons (pe_ix ix_tup (pv 1) pe_int (fun _ _ => rfl)) pa_nil))))) (pss_one (ps_if (pt_cmpR op_eq (pv 6) pe_str (nomark _)) (pss_one (ps_set (i := 7) nd rfl (.inl rfl) (pe_tidx mt_tup_index (pv 5) (pe_cc c_begin_of hr (by decide) (by rfl) (pa_cons (pe_ix ix_tup (pv 1) pe_int (fun _ _ => rfl)) pa_nil))))) (pss_one (ps_set (i := 7) nd rfl (.inl rfl) (pe_op op_add (pe_tidx mt_tup_index (pv 5) (pe_cc c_end_of hr (by decide) (by rfl) (pa_cons (pe_ix ix_tup (pv 1) pe_int (fun _ _ => rfl)) pa_nil))) pe_int))))))))))))
      (pss_one (ps_ret (pe_op op_catX (pe_op op_catX (pe_slice sl_tupX (pv 5) po_none (po_some (pv 7))) (pv 4)) (pe_slice sl_tupX (pv 5) (po_some (pv 7)) po_none))))))))), ?_⟩
  obtain ⟨r, a, x, d, l, rfl, hx, ha, hd, hm, hlen, q⟩ := h
  obtain ⟨hop, t, hpl, rfl⟩ := mvd_some hm
  have hcl := (cl_mem_row x d.a).mpr ((op_mem_row x d.a).mp hop)
  have e1 := len_pos hop
  have e2 := len_pos hcl
  have c1 : ((((Wd.row x).idxOf (.cl d.a) : Nat) : Int) + 1) = (((Wd.row x).idxOf (.cl d.a) + 1 : Nat) : Int) := (cast1 _).symm
  refine ⟨_, rfl, _, rfl, a, _, _, _, rfl, rfl, ha, mv1 d, ?_⟩
  refine ⟨r, _, d.a, rfl, hd.1, hx, hop, hcl, fun p H1 s1 ht => ?_⟩
  rw [c1] at ht
  refine ⟨p, _, rfl, ht, rfl, _, _, rfl, _, _, rfl, rfl, ?_⟩
  refine ⟨_, rfl, _, rfl, _, rfl, _, rfl, _, rfl, r, _, rfl, hx.same s1, fun p2 H2 s2 hb => ?_⟩
  rw [RowV_cut _ (by omega) e2, ← List.drop_take, show List.drop _ (List.take _ (Wd.row x)) = blkOf (Wd.row x) d.a from rfl] at hb
  have s02 := s1.trans s2
  refine ⟨_, rfl, _, rfl, _, rfl, r, _, rfl, hx.same s02, fun p3 H3 s3 h3 => ?_⟩
  rw [RowV_to _ (by omega)] at h3
  have s03 := s02.trans s3
  refine ⟨_, rfl, _, rfl, _, rfl, r, _, rfl, hx.same s03, fun p4 H4 s4 h4 => ?_⟩
  rw [RowV_from _ e2] at h4
  refine ⟨p3, p4, _, _, rfl, rfl, h3.same s4, h4, ?_, fun p5 H5 s5 h5 => ?_⟩
  · rw [RowV_len, RowV_len, line, List.length_take, List.length_drop]; omega
  rw [← RowV_cat, show List.take _ (Wd.row x) ++ List.drop _ (Wd.row x) = restOf (Wd.row x) d.a from rfl] at h5
  have hrl : (restOf (Wd.row x) d.a).length ≤ 200000 := by unfold restOf; rw [List.length_append, List.length_take, List.length_drop]; omega
  have hbl : (blkOf (Wd.row x) d.a).length ≤ 200000 := by unfold blkOf; rw [List.length_drop, List.length_take]; omega
  have s05 := (s03.trans s4).trans s5
  have hb5 := (hb.same ((s3.trans s4).trans s5))
  have htl := place_le hpl
  revert hrl hbl htl hpl h5 hb5 q
  generalize restOf (Wd.row x) d.a = R
  generalize blkOf (Wd.row x) d.a = B
  intro hpl q h5 hrl hbl hb5 htl
  refine ⟨_, rfl, a, _, _, _, rfl, rfl, sameT s05 ha, mv0 d, ?_⟩
  refine ⟨fun σ' H' => σ' = (((((((L2.start N_moved [V.ref r, V.ref a]).set 2 (some (.int ((Wd.row x).idxOf (.op d.a) : Nat)))).set 3 (some (.int ((Wd.row x).idxOf (.cl d.a) + 1 : Nat)))).set 4 (some (.ref p2))).set 5 (some (.ref p5))).set 6 (some (.str (wTxt d.w)))).set 7 (some (.int (t : Nat)))) ∧ Same H5 H', ?_, ?_⟩
  · have s0 := Same.refl H5
    have hdeed := sameT s05 ha
    refine ⟨_, rfl, rfl, _, rfl, ?_⟩
    by_cases w1 : d.w = .front
    · refine ifY (by rw [w1]; rfl) ?_
      have e : t = 0 := by rw [place, w1] at hpl; exact (Option.some.inj hpl).symm
      subst e
      exact ⟨rfl, s0⟩
    refine ifN (fun z => w1 (wT_inj (b := .front) z)) ⟨_, rfl, rfl, _, rfl, ?_⟩
    by_cases w2 : d.w = .back
    · refine ifY (by rw [w2]; rfl) ?_
      have e : t = R.length := by rw [place, w2] at hpl; exact (Option.some.inj hpl).symm
      subst e
      exact ⟨_, rfl, _, R.length, rfl, .inr ⟨_, h5.sq, (RowV_len R).symm⟩, rfl, s0⟩
    have hnb : needB d.w = true := by revert w1 w2; cases d.w <;> simp [needB]
    obtain ⟨he, et⟩ := place_at hpl hnb
    refine ifN (fun z => w2 (wT_inj (b := .back) z)) ⟨_, rfl, rfl, _, rfl, ?_⟩
    by_cases w3 : d.w = .first
    · refine ifY (by rw [w3]; rfl) ?_
      rw [w3] at he et
      refine ⟨_, rfl, ⟨_, _, rfl, h5⟩, _, rfl, a, _, _, _, rfl, rfl, hdeed, mv2 d hnb, d.b, rfl, hd.2, p5, R.map enc, _, _, rfl, rfl, h5.sq, idx_get he, idx_no he, _, _, rfl, rfl, ?_, s0⟩
      rw [et]; rfl
    refine ifN (fun z => w3 (wT_inj (b := .first) z)) ⟨_, rfl, rfl, _, rfl, ?_⟩
    by_cases w4 : d.w = .last
    · refine ifY (by rw [w4]; rfl) ?_
      rw [w4] at he et
      refine ⟨_, rfl, ⟨_, _, rfl, h5⟩, _, rfl, a, _, _, _, rfl, rfl, hdeed, mv2 d hnb, d.b, rfl, hd.2, p5, R.map enc, _, _, rfl, rfl, h5.sq, idx_get he, idx_no he, ?_, s0⟩
      rw [et]; rfl
    refine ifN (fun z => w4 (wT_inj (b := .last) z)) ⟨_, rfl, rfl, _, rfl, ?_⟩
    by_cases w5 : d.w = .ahead
    · refine ifY (by rw [w5]; rfl) ?_
      rw [w5] at he et
      refine ⟨_, rfl, ⟨_, _, rfl, h5⟩, _, rfl, a, _, _, _, rfl, rfl, hdeed, mv2 d hnb, d.b, rfl, hd.2, p5, R.map enc, _, _, rfl, rfl, h5.sq, idx_get he, idx_no he, ?_, s0⟩
      rw [et]; rfl
    refine ifN (fun z => w5 (wT_inj (b := .ahead) z)) ?_
    have w6 : d.w = .behind := by revert w1 w2 w3 w4 w5; cases d.w <;> simp
    rw [w6] at he et
    refine ⟨_, rfl, ⟨_, _, rfl, h5⟩, _, rfl, a, _, _, _, rfl, rfl, hdeed, mv2 d hnb, d.b, rfl, hd.2, p5, R.map enc, _, _, rfl, rfl, h5.sq, idx_get he, idx_no he, _, _, rfl, rfl, ?_, s0⟩
    rw [et]; rfl
  · rintro σ' H6 ⟨rfl, s6⟩
    refine ⟨_, rfl, _, rfl, _, rfl, p5, _, rfl, h5.same s6, fun q1 H7 s7 g7 => ?_⟩
    rw [RowV_to _ htl] at g7
    refine ⟨_, rfl, q1, p2, _, _, rfl, rfl, g7, hb5.same (s6.trans s7), ?_, fun q2 H8 s8 g8 => ?_⟩
    · rw [RowV_len, RowV_len, line, List.length_take]; omega
    rw [← RowV_cat] at g8
    refine ⟨_, rfl, _, rfl, _, rfl, p5, _, rfl, h5.same ((s6.trans s7).trans s8), fun q3 H9 s9 g9 => ?_⟩
    rw [RowV_from _ htl] at g9
    refine ⟨q2, q3, _, _, rfl, rfl, g8.same s9, g9, ?_, fun q4 H10 s10 g10 => ?_⟩
    · rw [RowV_len, RowV_len, line, List.length_append, List.length_take, List.length_drop]; omega
    rw [← RowV_cat] at g10
    exact q q4 H10 (((((s05.trans s6).trans s7).trans s8).trans s9).trans s10) g10
abbrev N_done : List Str := ["row", "deed", "word", "at", "first", "behind"]
theorem sc_done : FnScope N_done ["row", "deed"] (defScope (top 16)) := ⟨rfl, rfl, rfl, by decide +kernel, rfl, by decide +kernel, by decide +kernel⟩
theorem cal_done (T : Tp K mg) (F : Fnn K mg "done" 16)  (c_moved : Cal P w K mg base 3 "moved" ((spMovedK K))) : Cal P w K mg base 4 "done" ((spMovedK K)) := by
  obtain ⟨aMOVES, hMOVES, kMOVES⟩ := T.MOVES
  have nd := sc_done.nd
  refine cal F (fun _ _ _ _ _ _ us hl => match us, hl with | [_, _], _ => rfl) sc_done (fun vs H Q E h => by obtain ⟨r, a, x, d, l, rfl, hx, ha, hd, hm, hlen, q⟩ := h; rfl) (fun f cdv A outer s H vs Q E hr h => ?_)
  have hu := hu_of hr
  refine ⟨_, (pss_cons (ps_set (i := 2) nd rfl (.inl rfl) (pe_ix ix_tup (pv 1) pe_int (fun _ _ => rfl)))
      (pss_cons (ps_if (pt_cmpR op_in_seq (pv 2) (C8.pe_gc (v := .ref aMOVES) (by rfl) ⟨_, hMOVES, rfl⟩) rfl) (pss_one (ps_ret (pe_cc c_moved hr (by decide) (by rfl) (pa_cons (pv 0) (pa_cons (pv 1) pa_nil))))) pss_nil)
      pss_never)), ?_⟩
  obtain ⟨r, a, x, d, l, rfl, hx, ha, hd, hm, hlen, q⟩ := h
  refine ⟨_, rfl, a, _, _, _, rfl, rfl, ha, mv0 d, ?_⟩
  refine ⟨_, rfl, aMOVES, _, rfl, .inr (kMOVES H), rfl, flat_all _, _, rfl, ?_⟩
  refine ifE true ?_ ?_
  · cases d.w <;> rfl
  · exact ⟨_, rfl, _, rfl, r, a, x, d, l, rfl, hx, ha, hd, hm, hlen, q⟩
def spDoneAll (K : PySem.W.Frag) : Sp := fun vs H Q _ => ∃ (r a : Addr) (x : Wd Str) (ds : List (Mv Str)), vs = [.ref r, .ref a] ∧ TX H r (RowV (Wd.row x)) ∧ MvsAt K H a ds ∧ (∀ d ∈ ds, Shrt d) ∧ (Wd.nms x).Nodup ∧ (Wd.nms x).length ≤ 1000 ∧
  (∀ l p H' q, mvAll (Wd.row x) ds = some l → Same H H' → SqT K H' p [.str "does", .ref q] → TX H' q (RowV l) → Q (.ref p) H') ∧
  (∀ p H' i z, mvAll (Wd.row x) ds = none → Same H H' → PyData.strOk z = true → SqT K H' p [.str "stops", .int i, .str z] → Q (.ref p) H')
theorem mvAll_take {l m : List (En Str)} {ds : List (Mv Str)} {i : Nat} {d : Mv Str} (h : mvAll l (ds.take i) = some m) (e : ds[i]? = some d) : mvAll l (ds.take (i + 1)) = mvd m d := by
  rw [List.take_add_one, e, mvAll_append, h]
  show ((mvd m d).bind fun l' => some l') = _
  cases mvd m d <;> rfl
theorem mvAll_stop {l m : List (En Str)} {ds : List (Mv Str)} {i : Nat} {d : Mv Str} (h : mvAll l (ds.take i) = some m) (e : ds[i]? = some d) (hn : mvd m d = none) : mvAll l ds = none := by
  have z := mvAll_take h e
  rw [hn] at z
  rw [← List.take_append_drop (i + 1) ds, mvAll_append, z]
  rfl
abbrev N_done_all : List Str := ["row", "deeds", "index", "deed", "word"]
theorem sc_done_all : FnScope N_done_all ["row", "deeds"] (defScope (top 17)) := ⟨rfl, rfl, rfl, by decide +kernel, rfl, by decide +kernel, by decide +kernel⟩
theorem cal_done_all (T : Tp K mg) (F : Fnn K mg "done_all" 17)  (c_stop_of : Cal P w K mg base 4 "stop_of" (spStop K)) (c_done : Cal P w K mg base 4 "done" ((spMovedK K))) : Cal P w K mg base 5 "done_all" (spDoneAll K) := by
  have nd := sc_done_all.nd
  refine cal F (fun _ _ _ _ _ _ us hl => match us, hl with | [_, _], _ => rfl) sc_done_all (fun vs H Q E h => by obtain ⟨r, a, x, ds, rfl, hx, ⟨vs0, hds, hal⟩, hsh, hnd, hlen, q1, q2⟩ := h; rfl) (fun f cdv A outer s H vs Q E hr h => ?_)
  have hu := hu_of hr
  refine ⟨_, (pss_cons (ps_for PassesOwn.never rfl (pi_enumT (by rfl) T.b_enumerate (pa_cons (pv 1) pa_nil)) (pg_tup rfl (pgs_cons (pg_name (i := 2) nd rfl (.inl rfl)) (pgs_cons (pg_name (i := 3) nd rfl (.inl rfl)) pgs_nil))) (pss_cons (ps_set (i := 4) nd rfl (.inl rfl) (pe_cc c_stop_of hr (by decide) (by rfl) (pa_cons (pv 0) (pa_cons (pv 3) pa_nil))))
      (pss_cons (ps_if (pt_cmpR op_notN (pv 4) pe_non (nomark _)) (pss_one (ps_ret (pe_tup (pa_cons pe_str (pa_cons (pv 2) (pa_cons (pv 4) pa_nil)))))) pss_nil)
      (pss_one (ps_set (i := 0) nd rfl (.inl rfl) (pe_cc c_done hr (by decide) (by rfl) (pa_cons (pv 0) (pa_cons (pv 3) pa_nil))))))))
      (pss_one (ps_ret (pe_tup (pa_cons pe_str (pa_cons (pv 0) pa_nil)))))), ?_⟩
  obtain ⟨r, a, x, ds, rfl, hx, ⟨vs0, hds, hal⟩, hsh, hnd, hlen, q1, q2⟩ := h
  refine ⟨_, rfl, a, _, rfl, hds, ?_⟩
  refine for_it (walk_enumT (K := K) (a := a) (xs := vs0)) (fun i σ' H' => ∃ p y u1 u2 u3, σ' = [some (.ref p), some (.ref a), u1, u2, u3] ∧ Same H H' ∧ TX H' p (RowV (Wd.row y)) ∧ mvAll (Wd.row x) (ds.take i) = some (Wd.row y) ∧ (Wd.nms y).Perm (Wd.nms x))
    ⟨r, x, _, _, _, rfl, Same.refl H, hx, rfl, List.Perm.refl _⟩ ?_ ?_ ?_
  · rintro i σ' H' hi ⟨p, y, u1, u2, u3, rfl, s1, _⟩
    exact sameT s1 hds
  · rintro i v σ' H1 H2 hi ⟨p, y, u1, u2, u3, rfl, s1, hy, hm, hpm⟩ ⟨t, xi, yi, rfl, ht, rfl, e1, e2⟩
    obtain ⟨d, hd, pd, rfl, hpd⟩ := hal.get e2
    have s2 : ∀ {o : HO}, Same H1 (upd H1 t o) := fun {o} => same_new ht
    cases e1
    refine ⟨t, _, rfl, .inl (.inl upd_same), rfl, _, _, rfl, _, _, rfl, rfl, ?_⟩
    have hnd2 : (Wd.nms y).Nodup := hpm.nodup_iff.mpr hnd
    have hl2 : (Wd.row y).length ≤ 100000 := by rw [row_len, hpm.length_eq]; omega
    have hds2 := hsh d (List.mem_of_getElem? hd)
    refine ⟨_, rfl, _, rfl, p, pd, y, d, rfl, hy.same s2, sameT (s1.trans s2) hpd, hds2, fun H3 z s3 hz hst => ?_, fun H3 s3 hst => ?_⟩
    · refine ⟨_, rfl, rfl, _, rfl, ?_⟩
      have hno := (stops_iff hnd2 d).mp hst
      refine ⟨_, rfl, _, rfl, by show 3 ≤ sizeLine; decide, fun p4 hp4 => ?_⟩
      exact q2 _ _ _ z (mvAll_stop hm hd hno) (((s1.trans s2).trans s3).trans (same_new hp4)) hz (.inl (.inl upd_same))
    · refine ⟨_, rfl, rfl, _, rfl, ?_⟩
      cases hmv : mvd (Wd.row y) d with
      | none => rw [(stops_iff hnd2 d).mpr hmv] at hst; cases hst
      | some l2 =>
        obtain ⟨y2, rfl, hp2⟩ := mvd_wood hnd2 hmv
        have s4 := (s1.trans s2).trans s3
        refine ⟨_, rfl, _, rfl, p, pd, y, d, _, rfl, hy.same (s2.trans s3), sameT s4 hpd, hds2, hmv, hl2, fun p5 H5 s5 h5 => ?_⟩
        exact ⟨p5, y2, _, _, _, rfl, s4.trans s5, h5, (mvAll_take hm hd).trans hmv, hp2.trans hpm⟩
  · rintro σ' H' ⟨p, y, u1, u2, u3, rfl, s1, hy, hm, hpm⟩
    rw [hal.len, List.take_length] at hm
    refine ⟨_, rfl, by show 2 ≤ sizeLine; decide, fun p4 hp4 => ?_⟩
    exact q1 _ _ _ p hm (s1.trans (same_new hp4)) (.inl (.inl upd_same)) (hy.same (same_new hp4))
end
end K76
/-! text W4 -/
set_option Elab.async false
set_option linter.all false
set_option maxRecDepth 100000
set_option maxHeartbeats 4000000
namespace K76
open PySem PySem.Spec PyProof.Rows L2
def spName : Sp := fun vs H Q _ => ∃ n : Str, vs = [.str n] ∧ IsNm n ∧ Ans H (.bl true) Q
def spRowOf (K : PySem.W.Frag) : Sp := fun vs H Q _ => ∃ (a : Addr) (x : Wd Str), vs = [.ref a] ∧ WoodAt K H a x ∧ (∀ n ∈ Wd.nms x, n.length ≤ 100) ∧ (Wd.nms x).length ≤ 1000 ∧ NewR H (Wd.row x) Q
def spNames (K : PySem.W.Frag) : Sp := fun vs H Q _ => ∃ (a : Addr) (x : Wd Str), vs = [.ref a] ∧ WoodAt K H a x ∧ (∀ n ∈ Wd.nms x, n.length ≤ 100) ∧ (Wd.nms x).length ≤ 1000 ∧ NewT K H ((Wd.nms x).map V.str) Q
def letS : Str := "abcdefghijklmnopqrstuvwxyz"
theorem letS_mem {c : Nat} (h : 97 ≤ c ∧ c ≤ 122) : decide (c ∈ letS.cps.toList) = true := by
  have e : letS.cps.toList = (List.range 26).map (fun i => i + 97) := by decide +kernel
  rw [e, decide_eq_true_eq, List.mem_map]
  exact ⟨c - 97, List.mem_range.mpr (by omega), by omega⟩
theorem its_nm {zs : List Item} {P : Str → Prop} {l : List (En Str)} (h : ∀ e ∈ l ++ zs.flatMap itRow, ∀ n, e = En.op n ∨ e = En.cl n → P n) : True := trivial
theorem tyT {K : PySem.W.Frag} {H : Hp} {a : Addr} {xs : List V} (h : SqT K H a xs) : TyX K H (.ref a) (.type "tuple") := by
  rcases h with (h | ⟨o, h⟩) | h
  · exact .base (.tup h)
  · exact .fTuple h
  · obtain ⟨o, its, n, e, c, _⟩ := h
    exact .kTuple e c
section
variable {P : Program} {w : World} {K : PySem.W.Frag} {mg : Str → Option Value} {base : Heap}
abbrev N_is_name : List Str := ["value", "sign"]
theorem sc_is_name : FnScope N_is_name ["value"] (defScope (top 24)) := ⟨rfl, rfl, rfl, by decide +kernel, rfl, by decide +kernel, by decide +kernel⟩
theorem cal_is_name (T : Tp K mg) (F : Fnn K mg "is_name" 24)   : Cal P w K mg base 1 "is_name" spName := by
  have nd := sc_is_name.nd
  refine cal F (fun _ _ _ _ _ _ us hl => match us, hl with | [_], _ => rfl) sc_is_name (fun vs H Q E h => by obtain ⟨n, rfl, ⟨h1, h2, h3⟩, q⟩ := h; rfl) (fun f cdv A outer s H vs Q E hr h => ?_)
  have hu := hu_of hr
  refine ⟨_, (pss_cons (ps_if (PW.pt (pw_or (pt_not (pt_val (pe_callB call_isi (by rfl) T.b_isinstance (by decide +kernel) (pa_cons (pv 0) (pa_cons (pe_bltn (v := .ty "str") (by rfl) T.b_str (by decide +kernel) rfl) pa_nil))))) (pw_or1 (pt_not (pt_chain op_le op_le pe_int (pe_callB call_len (by rfl) T.b_len (by decide +kernel) (pa_cons (pv 0) pa_nil)) (C8.pe_gc (by rfl) T.MAX_LETTERS)))))) (pss_one (ps_ret pe_bl)) pss_nil)
      (pss_one (ps_ret (pe_callB (cr_all rfl) (by rfl) T.b_all (by decide +kernel) (pa_cons (pe_lc (own := [("sign", 1)]) rfl nd (pi_str (pv 0)) (blkOk_by (own := [("sign", 1)]) (N := N_is_name) (sc := defScope (top 24)) (by decide +kernel)) (fun _ _ _ _ _ => (pg_name (i := 1) nd rfl (.inl rfl))) (fun _ _ _ _ _ => pts_nil) (fun _ _ _ _ _ => (pe_cmpR op_in_sign (pv 1) (C8.pe_gc (by rfl) T.LETTERS) rfl))) pa_nil))))), ?_⟩
  obtain ⟨n, rfl, ⟨h1, h2, h3⟩, q⟩ := h
  refine ⟨_, rfl, _, _, _, _, true, rfl, .ty "str", .base (.str _), kit_ty (by decide +kernel), _, rfl, ?_⟩
  have hn : (n.length : Int) ≤ 8 := by omega
  refine ⟨_, rfl, _, n.length, rfl, ⟨by rw [line]; omega, rfl⟩, _, _, rfl, rfl, _, rfl, ?_⟩
  refine ifE true (decide_eq_true (by omega)) ⟨_, _, rfl, rfl, _, rfl, ?_⟩
  refine ifE false (by rw [decide_eq_true hn]; rfl) ?_
  refine ⟨_, rfl, n, rfl, fun D hD => ?_⟩
  refine lc_mapK n.cps.toList (fun c => .str ⟨#[c]⟩) (fun _ => .bl true) (fun _ => true) (walk_str (z := n)) (by simp) ?_ hD ?_ (fun _ _ => trivial) ?_ ?_
  · rintro i H1 x H2 ⟨rfl, c, hc, rfl⟩
    exact ⟨rfl, c, by rw [Array.getElem?_toList]; exact hc, rfl⟩
  · show n.cps.size < _
    have : n.cps.size = n.length := rfl
    omega
  · intro i c H2 Qn Qf hi s2 k1 k2
    refine ⟨rfl, _, rfl, c, letS, rfl, rfl, ?_⟩
    rw [letS_mem (h3 c (List.mem_of_getElem? hi))]
    exact k1 H2 (Same.refl _) rfl
  · intro H2 s2 hl
    refine ⟨D, List.replicate n.cps.toList.length true, rfl, .inl (.inl (by rw [hl, flt_all]; simp [List.map_const'])), ?_⟩
    rw [show (List.replicate n.cps.toList.length true).all id = true by simp]
    exact q H2 s2
abbrev N_row_of : List Str := ["wood", "found", "waiting", "item"]
theorem sc_row_of : FnScope N_row_of ["wood"] (defScope (top 25)) := ⟨rfl, rfl, rfl, by decide +kernel, rfl, by decide +kernel, by decide +kernel⟩
theorem cal_row_of (T : Tp K mg) (F : Fnn K mg "row_of" 25)  (c_begin_of : Cal P w K mg base 1 "begin_of" spBegin) (c_end_of : Cal P w K mg base 1 "end_of" spEnd) : Cal P w K mg base 2 "row_of" (spRowOf K) := by
  have nd := sc_row_of.nd
  refine cal F (fun _ _ _ _ _ _ us hl => match us, hl with | [_], _ => rfl) sc_row_of (fun vs H Q E h => by obtain ⟨a, x, rfl, ⟨xs, hx, ht⟩, hn, hlen, q⟩ := h; rfl) (fun f cdv A outer s H vs Q E hr h => ?_)
  have hu := hu_of hr
  refine ⟨_, (pss_cons (ps_set (i := 1) nd rfl (.inl rfl) (pe_lst pa_nil))
      (pss_cons (ps_set (i := 2) nd rfl (.inl rfl) (pe_callTy call_list_of (by rfl) T.b_list (by decide +kernel) (pa_cons (pe_revT (pv 0)) pa_nil)))
      (pss_cons (ps_while PassesOwn.never (pt_cmpR (op_ne0 hr.units0) (pv 2) (pe_lst pa_nil) (nomark _)) (pss_cons (ps_set (i := 3) nd rfl (.inl rfl) (pe_bm0 PySem.F.plainAttrs_list PySem.F.slot_list_pop PySem.F.type_list_pop mt_pop (pv 2)))
      (pss_one (ps_if (pt_val (pe_callB call_isi (by rfl) T.b_isinstance (by decide +kernel) (pa_cons (pv 3) (pa_cons (pe_bltn (v := .ty "str") (by rfl) T.b_str (by decide +kernel) rfl) pa_nil)))) (pss_one (ps_expr (pe_bm PySem.F.plainAttrs_list PySem.F.slot_list_append PySem.F.type_list_append mt_append (pv 1) (pa_cons (pv 3) pa_nil)))) (pss_cons (ps_expr (pe_bm PySem.F.plainAttrs_list PySem.F.slot_list_append PySem.F.type_list_append mt_append (pv 1) (pa_cons (pe_cc c_begin_of hr (by decide) (by rfl) (pa_cons (pe_ix ix_tup (pv 3) pe_int (fun _ _ => rfl)) pa_nil)) pa_nil)))
      (pss_cons (ps_expr (pe_bm PySem.F.plainAttrs_list PySem.F.slot_list_append PySem.F.type_list_append mt_append (pv 2) (pa_cons (pe_cc c_end_of hr (by decide) (by rfl) (pa_cons (pe_ix ix_tup (pv 3) pe_int (fun _ _ => rfl)) pa_nil)) pa_nil)))
      (pss_one (ps_expr (pe_bm PySem.F.plainAttrs_list PySem.F.slot_list_extend PySem.F.type_list_extend mt_extT (pv 2) (pa_cons (pe_revT (pe_ix ix_tup (pv 3) pe_int (fun _ _ => rfl))) pa_nil))))))))))
      (pss_one (ps_ret (pe_callTy call_tupX (by rfl) T.b_tuple (by decide +kernel) (pa_cons (pv 1) pa_nil))))))), ?_⟩
  obtain ⟨a, x, rfl, ⟨xs, hx, ht⟩, hn, hlen, q⟩ := h
  refine ⟨by decide, fun pf hpf => ?_⟩
  generalize hE_Ha : upd H pf _ = Ha
  have e1 := (congrFun hE_Ha pf).symm.trans upd_same
  have n1 : ∀ q_, q_ ≠ pf → Ha q_ = H q_ := by subst hE_Ha; exact fun q_ h => upd_ne h
  have s1 : Same H Ha := by subst hE_Ha; exact same_new hpf
  clear hE_Ha
  refine ⟨_, rfl, a, xs, rfl, sameT s1 hx, fun p2 hp2 => ?_⟩
  generalize hE_Hb : upd Ha p2 _ = Hb
  have e2 := (congrFun hE_Hb p2).symm.trans upd_same
  have n2 : ∀ q_, q_ ≠ p2 → Hb q_ = Ha q_ := by subst hE_Hb; exact fun q_ h => upd_ne h
  have s2 : Same Ha Hb := by subst hE_Hb; exact same_new hp2
  clear hE_Hb
  refine ⟨p2, _, rfl, .inr (.inl (.inl e2)), fun pw hpw => ?_⟩
  generalize hE_Hc : upd Hb pw _ = Hc
  have e3 := (congrFun hE_Hc pw).symm.trans upd_same
  have n3 : ∀ q_, q_ ≠ pw → Hc q_ = Hb q_ := by subst hE_Hc; exact fun q_ h => upd_ne h
  have s3 : Same Hb Hc := by subst hE_Hc; exact same_new hpw
  clear hE_Hc
  have s13 := (s1.trans s2).trans s3
  have hw0 : H pw = none := (s1.trans s2).free hpw
  have nfw : pf ≠ pw := ne_of_none (s2 _ _ e1) hpw
  have nwf : pw ≠ pf := Ne.symm nfw
  refine ⟨fun m σ' H' => ∃ (u : Option V) (l : List (En Str)) (zs : List Item) (ws : List V), σ' = [some (.ref a), some (.ref pf), some (.ref pw), u] ∧ Same H H' ∧ H' pf = some (.lst (RowV l)) ∧ H' pw = some (.lst ws) ∧
    Al (ItemAt K H') ws zs.reverse ∧ l ++ zs.flatMap itRow = Wd.row x ∧ m = (zs.flatMap itRow).length, ⟨(Wd.row x).length, _, [], (trs x).map .inr, xs.reverse, rfl, s13, s3 _ _ (s2 _ _ e1), e3, ?_, ?_, ?_⟩, ?_⟩
  · refine al_rev (al_map (f := Sum.inr) (S := TreeAt K Hc) (R := ItemAt K Hc) (fun v z h => h) (ht.al.mono fun _ _ h => h.same (Kp.of s13)))
  · rw [List.flatMap_map]; exact trs_row x
  · rw [List.flatMap_map]; exact (congrArg List.length (trs_row x)).symm
  rintro m σ' H' ⟨u, l, zs, ws, rfl, sm, hf, hw, hal, hrow, rfl⟩
  have hrl : (Wd.row x).length ≤ 2000 := by rw [row_len]; omega
  have hll : l.length + (zs.flatMap itRow).length ≤ 2000 := by rw [← hrow, List.length_append] at hrl; exact hrl
  refine ⟨_, rfl, by decide, fun p3 hp3 => ?_⟩
  generalize hE_H3 : upd H' p3 _ = H3
  have e4 := (congrFun hE_H3 p3).symm.trans upd_same
  have n4 : ∀ q_, q_ ≠ p3 → H3 q_ = H' q_ := by subst hE_H3; exact fun q_ h => upd_ne h
  have s4 : Same H' H3 := by subst hE_H3; exact same_new hp3
  clear hE_H3
  refine ⟨pw, p3, ws, rfl, rfl, .inl ⟨.inl (.inl (s4 _ _ hw)), .inl (.inl e4)⟩, _, rfl, ?_⟩
  match zs, ws, hal with
  | [], [], _ =>
    have e : l = Wd.row x := by simpa using hrow
    subst e
    refine ⟨_, rfl, pf, _, rfl, .inl (.inl (s4 _ _ hf)), fun p4 H4 _ s5 h4 => ?_⟩
    exact q p4 H4 ((sm.trans s4).trans s5) h4
  | [], _ :: _, h => exact h.elim
  | z :: zs, ws, hal =>
    rw [List.reverse_cons] at hal
    obtain ⟨ws', v, rfl, hal2, hv⟩ := al_snoc hal
    refine ifE true (by simp) ⟨fun σ' H' => ∃ m', m' < ((z :: zs).flatMap itRow).length ∧ _, fun _ _ h => h, ?_⟩
    have hw3 := s4 _ _ hw
    have hf3 := s4 _ _ hf
    refine ⟨_, rfl, .inl ⟨rfl, _, .inl (.inl hw3)⟩, pw, _, v, rfl, rfl, hw3, by simp, ?_⟩
    rw [List.dropLast_concat]
    have hwl : ws'.length ≤ 2000 := by
      have e1 := hal2.len
      have e2 := its_len zs
      rw [List.length_reverse] at e1
      rw [List.flatMap_cons, List.length_append] at hll
      omega
    generalize hE_H4 : upd H3 pw _ = H4
    have e5 := (congrFun hE_H4 pw).symm.trans upd_same
    have n5 : ∀ q_, q_ ≠ pw → H4 q_ = H3 q_ := by subst hE_H4; exact fun q_ h => upd_ne h
    have k5 : Kp H3 H4 := by subst hE_H4; exact Kp.mut hw3 (fun z => z)
    have m5 : ∀ H0, Same H0 H3 → H0 pw = none → Same H0 H4 := by subst hE_H4; exact fun _ s h => same_mut s h
    clear hE_H4
    have kk : Kp H' H4 := (Kp.of s4).trans k5
    have sm4 : Same H H4 := m5 H (sm.trans s4) hw0
    have hf4 : H4 pf = some (.lst (RowV l)) := (n5 pf nfw).trans hf3
    have hal4 := hal2.mono fun _ _ h => ItemAt.same kk h
    have hv4 := ItemAt.same kk hv
    cases z with
    | inl e =>
      cases hv4
      refine ⟨_, rfl, _, _, _, _, true, rfl, .ty "str", .base (.str _), kit_ty (by decide +kernel), _, rfl, ?_⟩
      refine ⟨_, rfl, .inl ⟨rfl, _, .inl (.inl hf4)⟩, _, rfl, pf, _, _, rfl, rfl, hf4, ?_, ?_⟩
      · rw [RowV_len, line]; omega
      generalize hE_H5 : upd H4 pf _ = H5
      have e6 := (congrFun hE_H5 pf).symm.trans upd_same
      have n6 : ∀ q_, q_ ≠ pf → H5 q_ = H4 q_ := by subst hE_H5; exact fun q_ h => upd_ne h
      have k6 : Kp H4 H5 := by subst hE_H5; exact Kp.mut hf4 (fun z => z)
      have m6 : ∀ H0, Same H0 H4 → H0 pf = none → Same H0 H5 := by subst hE_H5; exact fun _ s h => same_mut s h
      clear hE_H5
      refine ⟨_, by simp [itRow], _, l ++ [e], zs, ws', rfl, m6 H sm4 hpf, ?_, (n6 pw nwf).trans e5, hal4.mono fun _ _ h => ItemAt.same k6 h, ?_, rfl⟩
      · rw [RowV_cat]; exact e6
      · rw [← hrow]; simp [itRow]
    | inr z =>
      obtain ⟨n, i⟩ := z
      obtain ⟨t, b, rfl, ht4, ⟨bs, hb4, hbt⟩⟩ := hv4
      have hnn : n.length ≤ 100 := by
        refine hn n ((op_mem_row x n).mp ?_)
        rw [← hrow]
        simp [itRow, rowT]
      refine ⟨_, rfl, _, _, .type "tuple", _, false, rfl, .ty "str", tyT ht4, kit_ty (by decide +kernel), _, rfl, ?_⟩
      refine ⟨_, rfl, .inl ⟨rfl, _, .inl (.inl hf4)⟩, _, rfl, t, _, _, _, rfl, rfl, ht4, rfl, n, rfl, hnn, pf, _, _, rfl, rfl, hf4, ?_, ?_⟩
      · rw [RowV_len, line]; omega
      generalize hE_H5 : upd H4 pf _ = H5
      have e6 := (congrFun hE_H5 pf).symm.trans upd_same
      have n6 : ∀ q_, q_ ≠ pf → H5 q_ = H4 q_ := by subst hE_H5; exact fun q_ h => upd_ne h
      have k6 : Kp H4 H5 := by subst hE_H5; exact Kp.mut hf4 (fun z => z)
      have m6 : ∀ H0, Same H0 H4 → H0 pf = none → Same H0 H5 := by subst hE_H5; exact fun _ s h => same_mut s h
      clear hE_H5
      have hw5 := (n6 pw nwf).trans e5
      refine ⟨_, rfl, .inl ⟨rfl, _, .inl (.inl hw5)⟩, _, rfl, t, _, _, _, rfl, rfl, k6.T ht4, rfl, n, rfl, hnn, pw, _, _, rfl, rfl, hw5, ?_, ?_⟩
      · rw [line]; omega
      generalize hE_H6 : upd H5 pw _ = H6
      have e7 := (congrFun hE_H6 pw).symm.trans upd_same
      have n7 : ∀ q_, q_ ≠ pw → H6 q_ = H5 q_ := by subst hE_H6; exact fun q_ h => upd_ne h
      have k7 : Kp H5 H6 := by subst hE_H6; exact Kp.mut hw5 (fun z => z)
      have m7 : ∀ H0, Same H0 H5 → H0 pw = none → Same H0 H6 := by subst hE_H6; exact fun _ s h => same_mut s h
      clear hE_H6
      refine ⟨_, rfl, .inl ⟨rfl, _, .inl (.inl e7)⟩, _, rfl, t, _, _, _, rfl, rfl, (k6.trans k7).T ht4, rfl, b, _, rfl, (k6.trans k7).T hb4, fun p8 hp8 => ?_⟩
      generalize hE_H7 : upd H6 p8 _ = H7
      have e8 := (congrFun hE_H7 p8).symm.trans upd_same
      have n8 : ∀ q_, q_ ≠ p8 → H7 q_ = H6 q_ := by subst hE_H7; exact fun q_ h => upd_ne h
      have s8 : Same H6 H7 := by subst hE_H7; exact same_new hp8
      clear hE_H7
      have e7' := s8 _ _ e7
      refine ⟨pw, p8, _, _, rfl, rfl, e7', .inl (.inl e8), ?_, ?_⟩
      · have : bs.length = (Wd.roots i).length := hbt.len
        have h2 := roots_len i
        have h3 : (Wd.nms i).length ≤ 2000 := by
          have z := row_len i
          rw [List.flatMap_cons, List.length_append] at hll
          have : (itRow (.inr (n, i))).length = (Wd.row i).length + 2 := by simp [itRow, rowT]
          omega
        rw [line]
        simp only [List.length_append, List.length_reverse, List.length_cons, List.length_nil]
        omega
      generalize hE_H8 : upd H7 pw _ = H8
      have e9 := (congrFun hE_H8 pw).symm.trans upd_same
      have n9 : ∀ q_, q_ ≠ pw → H8 q_ = H7 q_ := by subst hE_H8; exact fun q_ h => upd_ne h
      have k9 : Kp H7 H8 := by subst hE_H8; exact Kp.mut e7' (fun z => z)
      have m9 : ∀ H0, Same H0 H7 → H0 pw = none → Same H0 H8 := by subst hE_H8; exact fun _ s h => same_mut s h
      clear hE_H8
      have k69 := ((k6.trans k7).trans (Kp.of s8)).trans k9
      refine ⟨((trs i).map Sum.inr ++ ((Sum.inl (En.cl n) : Item) :: zs) |>.flatMap itRow).length, ?_, _, l ++ [.op n], (trs i).map Sum.inr ++ ((Sum.inl (En.cl n) : Item) :: zs), _, rfl, m9 H ((m7 H (m6 H sm4 hpf) hw0).trans s8) hw0, ?_, e9, ?_, ?_, rfl⟩
      · rw [List.flatMap_append, List.flatMap_map, show (trs i).flatMap (fun x => itRow (Sum.inr x)) = Wd.row i from trs_row i]
        simp [itRow, rowT]
      · rw [n9 pf nfw, RowV_cat]
        exact s8 _ _ ((n7 pf nfw).trans e6)
      · rw [List.reverse_append, List.reverse_cons]
        refine Al.app (Al.app (hal4.mono fun _ _ h => ItemAt.same k69 h) ⟨rfl, trivial⟩) ?_
        rw [← List.map_reverse]
        exact al_map (f := Sum.inr) (S := TreeAt K H8) (R := ItemAt K H8) (fun v z h => h) (al_rev (hbt.al.mono fun _ _ h => h.same k69))
      · rw [List.flatMap_append, List.flatMap_map, show (trs i).flatMap (fun x => itRow (Sum.inr x)) = Wd.row i from trs_row i, ← hrow]
        simp [itRow, rowT]
theorem enc_tail (e : En Str) : Txt.slice (enc e) (some 1) none = (match e with
    | .op n => n
    | .cl n => n) := by
  have h : enc e = SX.S (enc e).cps.toList := (SX.S_tl _).symm
  rw [h, SX.slice_from (by decide), enc_cps]
  cases e <;> exact SX.S_tl _
theorem ops_filter (l : List (En Str)) : (l.filter fun e => match e with
    | .op _ => true
    | .cl _ => false).map (fun e => match e with
    | .op n => n
    | .cl n => n) = ops l := by
  induction l with
  | nil => rfl
  | cons e l ih =>
    cases e with
    | op n => rw [ops_op, ← ih]; rfl
    | cl n => rw [ops_cl, ← ih]; rfl
abbrev N_names_of : List Str := ["wood", "end"]
theorem sc_names_of : FnScope N_names_of ["wood"] (defScope (top 26)) := ⟨rfl, rfl, rfl, by decide +kernel, rfl, by decide +kernel, by decide +kernel⟩
theorem cal_names_of (T : Tp K mg) (F : Fnn K mg "names_of" 26)  (c_row_of : Cal P w K mg base 2 "row_of" (spRowOf K)) : Cal P w K mg base 3 "names_of" (spNames K) := by
  have nd := sc_names_of.nd
  refine cal F (fun _ _ _ _ _ _ us hl => match us, hl with | [_], _ => rfl) sc_names_of (fun vs H Q E h => by obtain ⟨a, x, rfl, hx, hn, hlen, q⟩ := h; rfl) (fun f cdv A outer s H vs Q E hr h => ?_)
  have hu := hu_of hr
  refine ⟨_, (pss_one (ps_ret (pe_callTy call_tuple_of (by rfl) T.b_tuple (by decide +kernel) (pa_cons (pe_lc (own := [("end", 1)]) rfl nd (pi_tup (pe_cc c_row_of hr (by decide) (by rfl) (pa_cons (pv 0) pa_nil))) (blkOk_by (own := [("end", 1)]) (N := N_names_of) (sc := defScope (top 26)) (by decide +kernel)) (fun _ _ _ _ _ => (pg_name (i := 1) nd rfl (.inl rfl))) (fun _ _ _ _ _ => (pts_one (pt_cmpR op_eq (pe_ix ix_str (pv 1) pe_int (fun _ _ => rfl)) pe_str (nomark _)))) (fun _ _ _ _ _ => (pe_slice C8.sl_txt (pv 1) (po_some pe_int) po_none))) pa_nil)))), ?_⟩
  obtain ⟨a, x, rfl, hx, hn, hlen, q⟩ := h
  refine ⟨_, rfl, a, x, rfl, hx, hn, hlen, fun p H1 s1 h1 => ⟨p, rfl, ⟨_, h1.sq⟩, fun D hD => ?_⟩⟩
  refine lc_mapK (Wd.row x) eV (fun e => .str (match e with
    | .op n => n
    | .cl n => n)) (fun e => match e with
    | .op _ => true
    | .cl _ => false) (walk_tup (K := K) (a := p) (xs := RowV (Wd.row x))) (RowV_len _) ?_ hD ?_ (fun H s => (h1.same s).sq) ?_ ?_
  · rw [show RowV (Wd.row x) = (Wd.row x).map eV by simp [RowV]]
    exact yat _ _
  · rw [row_len]; omega
  · intro i e H2 Qn Qf hi s2 k1 k2
    have hl : (enc e).length ≤ 1000 := by
      have he : ∀ n, n ∈ Wd.nms x → n.length ≤ 100 := hn
      have z : (enc e).length = (enc e).cps.toList.length := by rw [Array.length_toList]; rfl
      have m := List.mem_of_getElem? hi
      rw [z, enc_cps]
      cases e with
      | op n =>
        have := he n ((op_mem_row x n).mp m)
        have w : n.cps.toList.length = n.length := by rw [Array.length_toList]; rfl
        simp [w]; omega
      | cl n =>
        have := he n ((cl_mem_row x n).mp m)
        have w : n.cps.toList.length = n.length := by rw [Array.length_toList]; rfl
        simp [w]; omega
    refine ⟨rfl, _, rfl, _, _, (match e with
      | .op _ => 43
      | .cl _ => 45), rfl, rfl, by rw [line]; omega, ?_, rfl, _, rfl, ?_⟩
    · rw [enc_cps]; cases e <;> exact atI_nat (j := 0) rfl
    · cases e with
      | op n =>
        refine ifY rfl ⟨_, rfl, _, rfl, _, rfl, by rw [line]; omega, ?_⟩
        rw [enc_tail]
        exact k1 H2 (Same.refl _) rfl
      | cl n => exact ifN (show (⟨#[45]⟩ : Str) ≠ "+" by decide) (k2 H2 (Same.refl _) rfl)
  · intro H2 s2 hl
    refine ⟨D, _, rfl, .inl ⟨.inl (.inl hl), fun p3 hp3 => ?_⟩⟩
    generalize hE_H3 : upd H2 p3 _ = H3
    have e3 := (congrFun hE_H3 p3).symm.trans upd_same
    have n3 : ∀ q_, q_ ≠ p3 → H3 q_ = H2 q_ := by subst hE_H3; exact fun q_ h => upd_ne h
    have s3 : Same H2 H3 := by subst hE_H3; exact same_new hp3
    clear hE_H3
    refine q p3 H3 ((s1.trans s2).trans s3) (.inl (.inl ?_))
    rw [e3, ← ops_row, ← ops_filter, List.map_map]
    rfl
end
end K76
/-! text W5 -/
set_option Elab.async false
set_option linter.all false
set_option maxRecDepth 100000
set_option maxHeartbeats 4000000
namespace K76
open PySem PySem.Spec PyProof.Rows L2
abbrev kS (n : Str) : Key := Sum.inr n
def ParAt (H : Hp) (a : Addr) (x : Wd Str) : Prop := ∃ kvs : List (Key × V), H a = some (.dK kvs) ∧ ∀ n p, (n, p) ∈ Wd.prs none x → valV kvs (kS n) = some (pV p)
def spPar (K : PySem.W.Frag) : Sp := fun vs H Q _ => ∃ (a : Addr) (x : Wd Str), vs = [.ref a] ∧ WoodAt K H a x ∧ WdOk x ∧ ∀ p H', H p = none → Same H H' → ParAt H' p x → Q (.ref p) H'
abbrev Pn := Option Str × (Str × Wd Str)
def flt (z : Pn) : List (Str × Option Str) := (z.2.1, z.1) :: Wd.prs (some z.2.1) z.2.2
def PendAt (K : PySem.W.Frag) (H : Hp) (v : V) (z : Pn) : Prop := ∃ t tv, v = .ref t ∧ SqT K H t [pV z.1, tv] ∧ TreeAt K H tv z.2
theorem PendAt.same {K : PySem.W.Frag} {H H' : Hp} (s : Kp H H') {v : V} {z : Pn} (h : PendAt K H v z) : PendAt K H' v z :=
  let ⟨t, tv, e, h1, h2⟩ := h
  ⟨t, tv, e, s.T h1, h2.same s⟩
theorem flt_new (i : Wd Str) (p : Option Str) : ((trs i).map fun z => ((p, z) : Pn)).flatMap flt = Wd.prs p i := by
  rw [List.flatMap_map]
  exact trs_prs i p
theorem rev_len {α β : Type} (f : α → List β) (l : List α) : (l.reverse.flatMap f).length = (l.flatMap f).length := by
  induction l with
  | nil => rfl
  | cons a l ih => simp only [List.reverse_cons, List.flatMap_append, List.flatMap_cons, List.flatMap_nil, List.append_nil, List.length_append, ih]; omega
theorem rev_mem {α β : Type} {f : α → List β} {l : List α} {x : β} : x ∈ l.reverse.flatMap f ↔ x ∈ l.flatMap f := by simp [List.mem_flatMap]
theorem pend_len (zs : List Pn) : zs.length ≤ (zs.flatMap flt).length := by
  induction zs with
  | nil => simp
  | cons z zs ih => rw [List.flatMap_cons, List.length_append, List.length_cons, flt, List.length_cons]; omega
section
variable {P : Program} {w : World} {K : PySem.W.Frag} {mg : Str → Option Value} {base : Heap}
abbrev N_all_parents : List Str := ["wood", "found", "waiting", "tree", "parent", "part"]
theorem sc_all_parents : FnScope N_all_parents ["wood"] (defScope (top 27)) := ⟨rfl, rfl, rfl, by decide +kernel, rfl, by decide +kernel, by decide +kernel⟩
theorem cal_all_parents (T : Tp K mg) (F : Fnn K mg "all_parents" 27)   : Cal P w K mg base 1 "all_parents" (spPar K) := by
  have nd := sc_all_parents.nd
  refine cal F (fun _ _ _ _ _ _ us hl => match us, hl with | [_], _ => rfl) sc_all_parents (fun vs H Q E h => by obtain ⟨a, x, rfl, ⟨xs, hx, ht⟩, ok, q⟩ := h; rfl) (fun f cdv A outer s H vs Q E hr h => ?_)
  have hu := hu_of hr
  refine ⟨_, (pss_cons (ps_set (i := 1) nd rfl (.inl rfl) pe_dnewK)
      (pss_cons (ps_setLc (i := 2) (own := [("tree", 3)]) rfl nd rfl rfl (sw_true rfl rfl rfl (by decide +kernel)) (pi_tup (pv 0)) (blkOk_by (own := [("tree", 3)]) (N := N_all_parents) (sc := defScope (top 27)) (by decide +kernel)) (fun _ _ _ _ _ => (pg_name (i := 3) nd rfl (.inl rfl))) (fun _ _ _ _ _ => pts_nil) (fun _ _ _ _ _ => (pe_tup (pa_cons pe_non (pa_cons (pv 3) pa_nil)))))
      (pss_cons (ps_while PassesOwn.never (pt_cmpR (op_ne0 hr.units0) (pv 2) (pe_lst pa_nil) (nomark _)) (pss_cons (ps_asg (pe_bm0 PySem.F.plainAttrs_list PySem.F.slot_list_pop PySem.F.type_list_pop mt_pop (pv 2)) (pg_tup rfl (pgs_cons (pg_name (i := 4) nd rfl (.inl rfl)) (pgs_cons (pg_name (i := 3) nd rfl (.inr rfl)) pgs_nil))))
      (pss_cons (ps_dput hu (pv 1) (pe_ix ix_tup (pv 3) pe_int (fun _ _ => rfl)) (pv 4) rfl)
      (pss_one (ps_expr (pe_bm PySem.F.plainAttrs_list PySem.F.slot_list_extend PySem.F.type_list_extend mt_extend (pv 2) (pa_cons (pe_lc (own := [("part", 5)]) rfl nd (pi_tup (pe_ix ix_tup (pv 3) pe_int (fun _ _ => rfl))) (blkOk_by (own := [("part", 5)]) (N := N_all_parents) (sc := defScope (top 27)) (by decide +kernel)) (fun _ _ _ _ _ => (pg_name (i := 5) nd rfl (.inl rfl))) (fun _ _ _ _ _ => pts_nil) (fun _ _ _ _ _ => (pe_tup (pa_cons (pe_ix (ix_tupK (K := K) rfl) (pv 3) pe_int (fun _ _ => rfl)) (pa_cons (pv 5) pa_nil))))) pa_nil)))))))
      (pss_one (ps_ret (pv 1)))))), ?_⟩
  obtain ⟨a, x, rfl, ⟨xs, hx, ht⟩, ok, q⟩ := h
  intro pf hpf
  generalize hE_Ha : upd H pf _ = Ha
  have e1 := (congrFun hE_Ha pf).symm.trans upd_same
  have n1 : ∀ q_, q_ ≠ pf → Ha q_ = H q_ := by subst hE_Ha; exact fun q_ h => upd_ne h
  have s1 : Same H Ha := by subst hE_Ha; exact same_new hpf
  clear hE_Ha
  refine ⟨_, rfl, a, rfl, ⟨_, sameT s1 hx⟩, fun pw hpw => ?_⟩
  refine lc_rel (H1 := Ha) (trs x) (fun z H v => TreeAt K H v z) (fun H v z => PendAt K H v (none, z)) (fun _ _ _ _ s h => h.same s) (fun _ => true) (walk_tup (K := K) (a := a) (xs := xs)) ht.al.len ?_ hpw ?_ (fun H s => sameT (s1.trans s) hx) ?_ ?_
  · rintro i H1 v H2 sm ⟨rfl, hv⟩
    obtain ⟨z, hz, ht2⟩ := ht.al.get hv
    exact ⟨rfl, z, hz, ht2.same (Kp.of (s1.trans sm))⟩
  · have := roots_len x
    rw [← trs_names, List.length_map] at this
    have := ok.len
    omega
  · intro i z v H2 Qn Qf hi hv sm k1 k2
    refine ⟨rfl, _, rfl, by show 2 ≤ sizeLine; decide, fun t ht2 => ?_⟩
    generalize hE_H3 : upd H2 t _ = H3
    have e2 := (congrFun hE_H3 t).symm.trans upd_same
    have n2 : ∀ q_, q_ ≠ t → H3 q_ = H2 q_ := by subst hE_H3; exact fun q_ h => upd_ne h
    have s2 : Same H2 H3 := by subst hE_H3; exact same_new ht2
    clear hE_H3
    exact k1 H3 _ s2 rfl ⟨t, _, rfl, .inl (.inl e2), hv.same (Kp.of s2)⟩
  intro Hb ws0 s2 hw0 hal0
  rw [flt_all] at hal0
  have hpl : (Wd.prs none x).length ≤ 200 := by rw [prs_len]; exact ok.len
  have nfw : pf ≠ pw := ne_of_none e1 hpw
  have hwn : H pw = none := s1.free hpw
  have hndp : ((Wd.prs none x).map (·.1)).Nodup := by rw [prs_nms]; exact ok.nd
  refine ⟨fun m σ' H' => ∃ (u3 u4 u5 : Option V) (zs : List Pn) (ws : List V) (kvs : List (Key × V)), σ' = [some (.ref a), some (.ref pf), some (.ref pw), u3, u4, u5] ∧ Same H H' ∧ H' pf = some (.dK kvs) ∧ H' pw = some (.lst ws) ∧
    Al (PendAt K H') ws zs.reverse ∧ (∀ e ∈ zs.flatMap flt, e ∈ Wd.prs none x) ∧ (∀ n p, (n, p) ∈ Wd.prs none x → (n, p) ∈ zs.flatMap flt ∨ valV kvs (kS n) = some (pV p)) ∧ (∀ n v, valV kvs (kS n) = some v → ∃ p, (n, p) ∈ Wd.prs none x ∧ v = pV p) ∧
    kvs.length + (zs.flatMap flt).length ≤ 200 ∧ m = (zs.flatMap flt).length, ⟨(Wd.prs none x).length, _, _, _, ((trs x).map fun z => ((none, z) : Pn)).reverse, ws0, [], rfl, s1.trans s2, s2 _ _ e1, hw0, ?_, ?_, ?_, ?_, ?_, ?_⟩, ?_⟩
  · rw [List.reverse_reverse]
    exact al_map (f := fun z => ((none, z) : Pn)) (S := fun v z => PendAt K Hb v (none, z)) (R := PendAt K Hb) (fun v z h => h) hal0
  · intro e he
    rw [rev_mem, flt_new] at he
    exact he
  · intro n p he
    left
    rw [rev_mem, flt_new]
    exact he
  · intro n v h; cases h
  · rw [rev_len, flt_new]
    simpa using hpl
  · rw [rev_len, flt_new]
  rintro m σ' H' ⟨u3, u4, u5, zs, ws, kvs, rfl, sm, hf, hw, hal, hin, hall, honly, hle, rfl⟩
  refine ⟨_, rfl, by decide, fun p3 hp3 => ?_⟩
  generalize hE_H3 : upd H' p3 _ = H3
  have e3 := (congrFun hE_H3 p3).symm.trans upd_same
  have n3 : ∀ q_, q_ ≠ p3 → H3 q_ = H' q_ := by subst hE_H3; exact fun q_ h => upd_ne h
  have s3 : Same H' H3 := by subst hE_H3; exact same_new hp3
  clear hE_H3
  refine ⟨pw, p3, ws, rfl, rfl, .inl ⟨.inl (.inl (s3 _ _ hw)), .inl (.inl e3)⟩, _, rfl, ?_⟩
  match zs, ws, hal with
  | [], [], _ =>
    refine ⟨_, rfl, q pf H3 hpf (sm.trans s3) ⟨kvs, s3 _ _ hf, fun n p hnp => ?_⟩⟩
    rcases hall n p hnp with h | h
    · simp at h
    · exact h
  | [], _ :: _, h => exact h.elim
  | z :: zs, ws, hal =>
    rw [List.reverse_cons] at hal
    obtain ⟨ws', v, rfl, hal2, hv⟩ := al_snoc hal
    obtain ⟨pp, n, i⟩ := z
    refine ifE true (by simp) ⟨fun σ' H' => ∃ m', m' < (((pp, n, i) :: zs).flatMap flt).length ∧ _, fun _ _ h => h, ?_⟩
    have hw3 := s3 _ _ hw
    have hf3 := s3 _ _ hf
    refine ⟨_, rfl, .inl ⟨rfl, _, .inl (.inl hw3)⟩, pw, _, v, rfl, rfl, hw3, by simp, ?_⟩
    rw [List.dropLast_concat]
    generalize hE_H4 : upd H3 pw _ = H4
    have e5 := (congrFun hE_H4 pw).symm.trans upd_same
    have n5 : ∀ q_, q_ ≠ pw → H4 q_ = H3 q_ := by subst hE_H4; exact fun q_ h => upd_ne h
    have k5 : Kp H3 H4 := by subst hE_H4; exact Kp.mut hw3 (fun z => z)
    have m5 : ∀ H0, Same H0 H3 → H0 pw = none → Same H0 H4 := by subst hE_H4; exact fun _ s h => same_mut s h
    clear hE_H4
    have kk : Kp H' H4 := (Kp.of s3).trans k5
    have sm4 : Same H H4 := m5 H (sm.trans s3) hwn
    have hf4 : H4 pf = some (.dK kvs) := (n5 pf nfw).trans hf3
    have hal4 := hal2.mono fun _ _ h => PendAt.same kk h
    obtain ⟨t, tv, rfl, ht4, t2, b, rfl, ht5, ⟨bs, hb, hbt⟩⟩ := PendAt.same kk hv
    refine ⟨t, _, rfl, ht4, rfl, _, _, rfl, _, _, rfl, rfl, ?_⟩
    have hflt : (((pp, n, i) :: zs).flatMap flt) = (n, pp) :: (Wd.prs (some n) i ++ zs.flatMap flt) := by rw [List.flatMap_cons]; rfl
    rw [hflt] at hin hall hle ⊢
    have hnp : (n, pp) ∈ Wd.prs none x := hin _ List.mem_cons_self
    have hkl : kvs.length ≤ 200 := by omega
    refine ⟨_, rfl, _, rfl, _, rfl, t2, _, _, _, rfl, rfl, ht5, rfl, pf, _, rfl, DPut.k (k := kS n) hf4 (by rw [line]; omega), ?_⟩
    generalize hE_H5 : upd H4 pf _ = H5
    have e6 := (congrFun hE_H5 pf).symm.trans upd_same
    have n6 : ∀ q_, q_ ≠ pf → H5 q_ = H4 q_ := by subst hE_H5; exact fun q_ h => upd_ne h
    have k6 : Kp H4 H5 := by subst hE_H5; exact Kp.mut hf4 (fun z => z)
    have m6 : ∀ H0, Same H0 H4 → H0 pf = none → Same H0 H5 := by subst hE_H5; exact fun _ s h => same_mut s h
    clear hE_H5
    have hw5 := (n6 pw (Ne.symm nfw)).trans e5
    refine ⟨_, rfl, .inl ⟨rfl, _, .inl (.inl hw5)⟩, _, rfl, t2, _, _, _, rfl, rfl, k6.T ht5, rfl, b, rfl, ⟨_, k6.T hb⟩, fun pd hpd => ?_⟩
    have hpl2 : (Wd.prs (some n) i).length = (Wd.nms i).length := prs_len i (some n)
    have hrl := roots_len i
    have htl : (trs i).length = (Wd.roots i).length := by rw [← trs_names, List.length_map]
    have hle2 : kvs.length + ((Wd.prs (some n) i).length + (zs.flatMap flt).length + 1) ≤ 200 := by
      have z := hle
      rw [List.length_cons, List.length_append] at z
      exact z
    refine lc_rel (H1 := H5) (trs i) (fun z H v => TreeAt K H v z) (fun H v z => PendAt K H v (some n, z)) (fun _ _ _ _ s h => h.same s) (fun _ => true) (walk_tup (K := K) (a := b) (xs := bs)) hbt.al.len ?_ hpd ?_ (fun H s => (k6.trans (Kp.of s)).T hb) ?_ ?_
    · rintro i H1 v H2 sm ⟨rfl, hv⟩
      obtain ⟨z, hz, ht2⟩ := hbt.al.get hv
      exact ⟨rfl, z, hz, ht2.same (k6.trans (Kp.of sm))⟩
    · omega
    · intro i z v H6 Qn Qf hi hv sm k1 k2
      refine ⟨rfl, _, rfl, t2, _, _, _, rfl, rfl, (k6.trans (Kp.of sm)).T ht5, rfl, _, rfl, by show 2 ≤ sizeLine; decide, fun t ht2 => ?_⟩
      generalize hE_H7 : upd H6 t _ = H7
      have e7 := (congrFun hE_H7 t).symm.trans upd_same
      have n7 : ∀ q_, q_ ≠ t → H7 q_ = H6 q_ := by subst hE_H7; exact fun q_ h => upd_ne h
      have s7 : Same H6 H7 := by subst hE_H7; exact same_new ht2
      clear hE_H7
      exact k1 H7 _ s7 rfl ⟨t, _, rfl, .inl (.inl e7), hv.same (Kp.of s7)⟩
    intro H6 ys s6 hys haly
    rw [flt_all] at haly
    have hw6 := s6 _ _ hw5
    have hwl : ws'.length ≤ 200 := by
      have e1 := hal2.len
      have e2 := pend_len zs
      rw [List.length_reverse] at e1
      omega
    refine ⟨pw, pd, _, _, rfl, rfl, hw6, hys, ?_, ?_⟩
    · rw [haly.len, line]; omega
    generalize hE_H7 : upd H6 pw _ = H7
    have e8 := (congrFun hE_H7 pw).symm.trans upd_same
    have n8 : ∀ q_, q_ ≠ pw → H7 q_ = H6 q_ := by subst hE_H7; exact fun q_ h => upd_ne h
    have k8 : Kp H6 H7 := by subst hE_H7; exact Kp.mut hw6 (fun z => z)
    have m8 : ∀ H0, Same H0 H6 → H0 pw = none → Same H0 H7 := by subst hE_H7; exact fun _ s h => same_mut s h
    clear hE_H7
    have k68 := (Kp.of s6).trans k8
    refine ⟨((((trs i).map fun z => ((some n, z) : Pn)).reverse ++ zs).flatMap flt).length, ?_, _, _, _, ((trs i).map fun z => ((some n, z) : Pn)).reverse ++ zs, _, putK kvs (kS n) (pV pp), rfl, m8 H ((m6 H sm4 hpf).trans s6) hwn, ?_, e8, ?_, ?_, ?_, ?_, ?_, rfl⟩
    · rw [List.flatMap_append, List.length_append, rev_len, flt_new, List.length_cons, List.length_append]; omega
    · rw [n8 pf nfw]; exact s6 _ _ e6
    · rw [List.reverse_append, List.reverse_reverse]
      refine Al.app (hal4.mono fun _ _ h => PendAt.same (k6.trans k68) h) ?_
      exact al_map (f := fun z => ((some n, z) : Pn)) (S := fun v z => PendAt K H7 v (some n, z)) (R := PendAt K H7) (fun v z h => h) (haly.mono fun _ _ h => PendAt.same k8 h)
    · intro e he
      rw [List.flatMap_append, List.mem_append, rev_mem, flt_new] at he
      exact hin e (List.mem_cons_of_mem _ (List.mem_append.mpr he))
    · intro n2 p2 he
      rw [List.flatMap_append, List.mem_append, rev_mem, flt_new, valV_put]
      rcases hall n2 p2 he with h | h
      · rcases List.mem_cons.mp h with h | h
        · cases h; right; rw [if_pos rfl]
        · left; exact List.mem_append.mp h
      · right
        by_cases e2 : kS n2 = kS n
        · cases e2
          rw [if_pos rfl, nodup_snd hndp hnp he]
        · rw [if_neg e2]; exact h
    · intro n2 v hv2
      rw [valV_put] at hv2
      by_cases e2 : kS n2 = kS n
      · cases e2
        rw [if_pos rfl] at hv2
        exact ⟨pp, hnp, (Option.some.inj hv2).symm⟩
      · rw [if_neg e2] at hv2; exact honly n2 v hv2
    · have := putlen kvs (kS n) (pV pp)
      rw [List.flatMap_append, List.length_append, rev_len, flt_new]
      omega
end
end K76
/-! text W6 -/
set_option Elab.async false
set_option linter.all false
set_option maxRecDepth 100000
set_option maxHeartbeats 4000000
namespace K76
open PySem PySem.Spec PyProof.Rows L2
def NmMv (d : Mv Str) : Prop := IsNm d.a ∧ IsNm d.b
theorem NmMv.shrt {d : Mv Str} (h : NmMv d) : Shrt d := by
  have h1 := h.1.2.1
  have h2 := h.2.2.1
  exact ⟨by omega, by omega⟩
theorem mv_ne (d : Mv Str) : (mvV d).isEmpty = false := by unfold mvV mvS; split <;> rfl
theorem mv_len (d : Mv Str) : (mvV d).length = if needB d.w = true then 3 else 2 := by unfold mvV mvS; split <;> rfl
def spDeedErr (K : PySem.W.Frag) : Sp := fun vs H Q _ => ∃ (a : Addr) (d : Mv Str), vs = [.ref a] ∧ SqT K H a (mvV d) ∧ NmMv d ∧ Ans H .non Q
def spAlike (K : PySem.W.Frag) : Sp := fun vs H Q _ => ∃ (a b : Addr) (x y : Wd Str), vs = [.ref a, .ref b] ∧ WoodAt K H a x ∧ WoodAt K H b y ∧ WdOk x ∧ WdOk y ∧ (Wd.nms x).Perm (Wd.nms y) ∧ Ans H .non Q
def StAt (K : PySem.W.Frag) (H : Hp) (v : V) (z : Str × Option Str) : Prop := ∃ t, v = .ref t ∧ SqT K H t [.str z.1, pV z.2]
theorem StAt.same {K : PySem.W.Frag} {H H' : Hp} (s : Kp H H') {v : V} {z : Str × Option Str} (h : StAt K H v z) : StAt K H' v z := let ⟨t, e, q⟩ := h; ⟨t, e, s.T q⟩
def spStaying (K : PySem.W.Frag) : Sp := fun vs H Q _ => ∃ (a b : Addr) (x y : Wd Str), vs = [.ref a, .ref b] ∧ WoodAt K H a x ∧ WoodAt K H b y ∧ WdOk x ∧ WdOk y ∧ (Wd.nms x).Perm (Wd.nms y) ∧
  ∀ p H' ys, H p = none → Same H H' → H' p = some (.lst ys) → Al (StAt K H') ys (stayL x y) → Q (.ref p) H'
def PlAt (H : Hp) (a : Addr) (x : Wd Str) : Prop := ∃ kvs : List (Key × V), H a = some (.dK kvs) ∧ kvs.length = (Wd.nms x).length ∧ ∀ n ∈ Wd.nms x, valV kvs (kS n) = some (.int (posn x n : Nat))
def spPlaces (K : PySem.W.Frag) : Sp := fun vs H Q _ => ∃ (a : Addr) (x : Wd Str), vs = [.ref a] ∧ WoodAt K H a x ∧ WdOk x ∧ ∀ p H', H p = none → Same H H' → PlAt H' p x → Q (.ref p) H'
theorem nm_par {x : Wd Str} {n : Str} (h : n ∈ Wd.nms x) : ∃ p, (n, p) ∈ Wd.prs none x := by
  rw [← prs_nms x none] at h
  obtain ⟨z, hz, rfl⟩ := List.mem_map.mp h
  exact ⟨z.2, hz⟩
theorem par_nm {x : Wd Str} {n : Str} {p : Option Str} (h : (n, p) ∈ Wd.prs none x) : n ∈ Wd.nms x := by
  rw [← prs_nms x none]
  exact List.mem_map_of_mem (f := (·.1)) h
theorem prs_nd {x : Wd Str} (ok : WdOk x) : ((Wd.prs none x).map (·.1)).Nodup := by rw [prs_nms]; exact ok.nd
theorem scal_pV (p q : Option Str) : scal (pV p) (pV q) = true := by cases p <;> cases q <;> rfl
theorem pV_dec (p q : Option Str) : decide (pV p = pV q) = decide (p = q) := by
  by_cases h : p = q
  · subst h; simp
  · rw [decide_eq_false h, decide_eq_false fun z => h (pV_inj z)]
section
variable {P : Program} {w : World} {K : PySem.W.Frag} {mg : Str → Option Value} {base : Heap}
abbrev N_deed_error : List Str := ["value", "item"]
theorem sc_deed_error : FnScope N_deed_error ["value"] (defScope (top 29)) := ⟨rfl, rfl, rfl, by decide +kernel, rfl, by decide +kernel, by decide +kernel⟩
theorem cal_deed_error (T : Tp K mg) (F : Fnn K mg "deed_error" 29)  (c_is_name : Cal P w K mg base 1 "is_name" spName) : Cal P w K mg base 2 "deed_error" (spDeedErr K) := by
  obtain ⟨aWORDS, hWORDS, kWORDS⟩ := T.WORDS
  obtain ⟨aSINGLE, hSINGLE, kSINGLE⟩ := T.SINGLE
  have nd := sc_deed_error.nd
  refine cal F (fun _ _ _ _ _ _ us hl => match us, hl with | [_], _ => rfl) sc_deed_error (fun vs H Q E h => by obtain ⟨a, d, rfl, ha, hd, q⟩ := h; rfl) (fun f cdv A outer s H vs Q E hr h => ?_)
  have hu := hu_of hr
  refine ⟨_, (pss_cons (ps_if (PW.pt (pw_or (pt_not (pt_val (pe_callB call_isi (by rfl) T.b_isinstance (by decide +kernel) (pa_cons (pv 0) (pa_cons (pe_bltn (v := .ty "tuple") (by rfl) T.b_tuple (by decide +kernel) rfl) pa_nil))))) (pw_or (pt_cmpR (op_eq0 hr.units0) (pv 0) (pe_tup pa_nil) (nomark _)) (pw_or1 (pt_cmpR op_notIn_seq (pe_ix ix_tup (pv 0) pe_int (fun _ _ => rfl)) (C8.pe_gc (v := .ref aWORDS) (by rfl) ⟨_, hWORDS, rfl⟩) rfl))))) (pss_one (ps_ret pe_str)) pss_nil)
      (pss_cons (ps_if (pt_cmpR op_ne (pe_callB call_len (by rfl) T.b_len (by decide +kernel) (pa_cons (pv 0) pa_nil)) (pe_ifExp (pt_cmpR op_in_seq (pe_ix ix_tup (pv 0) pe_int (fun _ _ => rfl)) (C8.pe_gc (v := .ref aSINGLE) (by rfl) ⟨_, hSINGLE, rfl⟩) rfl) pe_int pe_int) (nomark _)) (pss_one (ps_ret pe_str)) pss_nil)
      (pss_one (ps_ret (pe_ifExp (pt_val (pe_callB (cr_all rfl) (by rfl) T.b_all (by decide +kernel) (pa_cons (pe_lc (own := [("item", 1)]) rfl nd (pi_tup (pe_slice sl_tupA (pv 0) (po_some pe_int) po_none)) (blkOk_by (own := [("item", 1)]) (N := N_deed_error) (sc := defScope (top 29)) (by decide +kernel)) (fun _ _ _ _ _ => (pg_name (i := 1) nd rfl (.inl rfl))) (fun _ _ _ _ _ => pts_nil) (fun _ _ _ _ _ => (pe_cc c_is_name hr (by decide) (by rfl) (pa_cons (pv 1) pa_nil)))) pa_nil))) pe_non pe_str))))), ?_⟩
  obtain ⟨a, d, rfl, ha, hd, q⟩ := h
  refine ⟨_, rfl, _, _, .type "tuple", _, true, rfl, .ty "tuple", tyT ha, kit_ty (by decide +kernel), _, rfl, ?_⟩
  refine ⟨_, rfl, by decide, fun p hp => ?_⟩
  generalize hE_H1 : upd H p _ = H1
  have e1 := (congrFun hE_H1 p).symm.trans upd_same
  have n1 : ∀ q_, q_ ≠ p → H1 q_ = H q_ := by subst hE_H1; exact fun q_ h => upd_ne h
  have s1 : Same H H1 := by subst hE_H1; exact same_new hp
  clear hE_H1
  have ha1 := sameT s1 ha
  refine ⟨a, p, _, rfl, rfl, .inr ⟨ha1, .inl (.inl e1)⟩, _, rfl, ifE false (mv_ne d) ?_⟩
  refine ⟨_, rfl, a, _, _, _, rfl, rfl, ha1, mv0 d, aWORDS, _, rfl, .inr (kWORDS H1), rfl, flat_all _, _, rfl, ifE false (by cases d.w <;> rfl) ?_⟩
  refine ⟨_, rfl, _, _, rfl, .inr ⟨_, ha1, rfl⟩, ?_⟩
  refine ⟨_, rfl, a, _, _, _, rfl, rfl, ha1, mv0 d, aSINGLE, _, rfl, .inr (kSINGLE H1), rfl, flat_all _, _, rfl, ?_⟩
  rw [mv_len]
  have hs : inV (V.str (wTxt d.w)) (List.map V.str (["front", "back", "lift", "cut"] : List Str)) = !needB d.w := by cases d.w <;> rfl
  refine ifE (!needB d.w) hs ?_
  have cut : cutV (mvV d) (some 1) none = (mvS d).tail.map V.str := by
    unfold mvV mvS
    split <;> rfl
  have hno : ¬ (HT.sIx (mvV d).length 0 (some 1) = 0 ∧ HT.sIx (mvV d).length (mvV d).length none = (mvV d).length) := fun z => absurd z.1 (by unfold mvV mvS; split <;> exact fun h => nomatch h)
  have hnm : ∀ n ∈ (mvS d).tail, IsNm n := by
    intro n hn
    unfold mvS at hn
    split at hn <;> simp at hn
    · rcases hn with rfl | rfl
      · exact hd.1
      · exact hd.2
    · subst hn; exact hd.1
  cases hb : needB d.w
  · refine ifE true rfl ⟨rfl, _, rfl, ifE false rfl ?_⟩
    refine ⟨_, rfl, _, rfl, a, _, rfl, ha1, fun z => absurd z hno, fun _ p2 hp2 => ?_⟩
    rw [cut]
    generalize hE_H2 : upd H1 p2 _ = H2
    have e2 := (congrFun hE_H2 p2).symm.trans upd_same
    have n2 : ∀ q_, q_ ≠ p2 → H2 q_ = H1 q_ := by subst hE_H2; exact fun q_ h => upd_ne h
    have s2 : Same H1 H2 := by subst hE_H2; exact same_new hp2
    clear hE_H2
    refine ⟨p2, rfl, ⟨_, .inl (.inl e2)⟩, fun D hD => ?_⟩
    refine lc_mapK (mvS d).tail V.str (fun _ => .bl true) (fun _ => true) (walk_tup (K := K) (a := p2) (xs := (mvS d).tail.map V.str)) (by simp) (yat _ _) hD ?_ (fun H s => .inl (.inl (s _ _ e2))) ?_ ?_
    · unfold mvS; split <;> exact Nat.lt_of_lt_of_le (Nat.lt_succ_self _) (by simp)
    · intro i n H3 Qn Qf hi s3 k1 k2
      exact ⟨rfl, _, rfl, n, rfl, hnm n (List.mem_of_getElem? hi), fun H4 s4 => k1 H4 s4 rfl⟩
    · intro H3 s3 hl
      refine ⟨D, List.replicate (mvS d).tail.length true, rfl, .inl (.inl (by rw [hl, flt_all]; simp [List.map_const'])), _, rfl, ifE true (by simp) ?_⟩
      exact q H3 ((s1.trans s2).trans s3)
  · refine ifE false rfl ⟨rfl, _, rfl, ifE false rfl ?_⟩
    refine ⟨_, rfl, _, rfl, a, _, rfl, ha1, fun z => absurd z hno, fun _ p2 hp2 => ?_⟩
    rw [cut]
    generalize hE_H2 : upd H1 p2 _ = H2
    have e2 := (congrFun hE_H2 p2).symm.trans upd_same
    have n2 : ∀ q_, q_ ≠ p2 → H2 q_ = H1 q_ := by subst hE_H2; exact fun q_ h => upd_ne h
    have s2 : Same H1 H2 := by subst hE_H2; exact same_new hp2
    clear hE_H2
    refine ⟨p2, rfl, ⟨_, .inl (.inl e2)⟩, fun D hD => ?_⟩
    refine lc_mapK (mvS d).tail V.str (fun _ => .bl true) (fun _ => true) (walk_tup (K := K) (a := p2) (xs := (mvS d).tail.map V.str)) (by simp) (yat _ _) hD ?_ (fun H s => .inl (.inl (s _ _ e2))) ?_ ?_
    · unfold mvS; split <;> exact Nat.lt_of_lt_of_le (Nat.lt_succ_self _) (by simp)
    · intro i n H3 Qn Qf hi s3 k1 k2
      exact ⟨rfl, _, rfl, n, rfl, hnm n (List.mem_of_getElem? hi), fun H4 s4 => k1 H4 s4 rfl⟩
    · intro H3 s3 hl
      refine ⟨D, List.replicate (mvS d).tail.length true, rfl, .inl (.inl (by rw [hl, flt_all]; simp [List.map_const'])), _, rfl, ifE true (by simp) ?_⟩
      exact q H3 ((s1.trans s2).trans s3)
abbrev N_require_alike : List Str := ["one", "other"]
theorem sc_require_alike : FnScope N_require_alike ["one", "other"] (defScope (top 31)) := ⟨rfl, rfl, rfl, by decide +kernel, rfl, by decide +kernel, by decide +kernel⟩
theorem cal_require_alike (T : Tp K mg) (F : Fnn K mg "require_alike" 31)  (c_names_of : Cal P w K mg base 3 "names_of" (spNames K)) : Cal P w K mg base 4 "require_alike" (spAlike K) := by
  have nd := sc_require_alike.nd
  refine cal F (fun _ _ _ _ _ _ us hl => match us, hl with | [_, _], _ => rfl) sc_require_alike (fun vs H Q E h => by obtain ⟨a, b, x, y, rfl, hx, hy, ox, oy, hp, q⟩ := h; rfl) (fun f cdv A outer s H vs Q E hr h => ?_)
  have hu := hu_of hr
  refine ⟨_, (pss_one (ps_if (pt_cmpR (op_neD hr.units) (pe_callB cr_sortST (by rfl) T.b_sorted (by decide +kernel) (pa_cons (pe_cc c_names_of hr (by decide) (by rfl) (pa_cons (pv 0) pa_nil)) pa_nil)) (pe_callB cr_sortST (by rfl) T.b_sorted (by decide +kernel) (pa_cons (pe_cc c_names_of hr (by decide) (by rfl) (pa_cons (pv 1) pa_nil)) pa_nil)) (nomark _)) (pss_one ps_never) pss_nil)), ?_⟩
  obtain ⟨a, b, x, y, rfl, hx, hy, ox, oy, hp, q⟩ := h
  refine ⟨_, rfl, a, x, rfl, hx, ox.short, ox.few, fun p1 H1 s1 t1 => ⟨p1, _, rfl, t1, fun ys p2 hpm hso hp2 => ?_⟩⟩
  generalize hE_H2 : upd H1 p2 _ = H2
  have e2 := (congrFun hE_H2 p2).symm.trans upd_same
  have n2 : ∀ q_, q_ ≠ p2 → H2 q_ = H1 q_ := by subst hE_H2; exact fun q_ h => upd_ne h
  have s2 : Same H1 H2 := by subst hE_H2; exact same_new hp2
  clear hE_H2
  have s02 := s1.trans s2
  refine ⟨_, rfl, b, y, rfl, hy.same (Kp.of s02), oy.short, oy.few, fun p3 H3 s3 t3 => ⟨p3, _, rfl, t3, fun zs p4 hpm2 hso2 hp4 => ?_⟩⟩
  generalize hE_H4 : upd H3 p4 _ = H4
  have e4 := (congrFun hE_H4 p4).symm.trans upd_same
  have n4 : ∀ q_, q_ ≠ p4 → H4 q_ = H3 q_ := by subst hE_H4; exact fun q_ h => upd_ne h
  have s4 : Same H3 H4 := by subst hE_H4; exact same_new hp4
  clear hE_H4
  have e : ys = zs := sorted_uniq ((hpm.trans hp).trans hpm2.symm) hso hso2
  subst e
  have so : ∀ s ∈ ys, strO s := fun s hs => ox.strO s (hpm.subset hs)
  refine ⟨.list (ys.map .str), .list (ys.map .str), .lst (.inl (.inl (s4 _ _ (s3 _ _ e2)))) (dp_strs _), .lst (.inl (.inl e4)) (dp_strs _), shaped_lst so, shaped_lst so, _, rfl, ifE false ?_ (q H4 ((s02.trans s3).trans s4))⟩
  rw [PyData.eqv, eqv_strs]
  simp
abbrev N_staying : List Str := ["one", "other", "here", "there", "name"]
theorem sc_staying : FnScope N_staying ["one", "other"] (defScope (top 32)) := ⟨rfl, rfl, rfl, by decide +kernel, rfl, by decide +kernel, by decide +kernel⟩
theorem cal_staying (T : Tp K mg) (F : Fnn K mg "staying" 32)  (c_all_parents : Cal P w K mg base 1 "all_parents" (spPar K)) (c_names_of : Cal P w K mg base 3 "names_of" (spNames K)) : Cal P w K mg base 4 "staying" (spStaying K) := by
  have nd := sc_staying.nd
  refine cal F (fun _ _ _ _ _ _ us hl => match us, hl with | [_, _], _ => rfl) sc_staying (fun vs H Q E h => by obtain ⟨a, b, x, y, rfl, hx, hy, ox, oy, hp, q⟩ := h; rfl) (fun f cdv A outer s H vs Q E hr h => ?_)
  have hu := hu_of hr
  refine ⟨_, (pss_cons (ps_asg (pe_tup (pa_cons (pe_cc c_all_parents hr (by decide) (by rfl) (pa_cons (pv 0) pa_nil)) (pa_cons (pe_cc c_all_parents hr (by decide) (by rfl) (pa_cons (pv 1) pa_nil)) pa_nil))) (pg_tup rfl (pgs_cons (pg_name (i := 2) nd rfl (.inr rfl)) (pgs_cons (pg_name (i := 3) nd rfl (.inr rfl)) pgs_nil))))
      (pss_one (ps_ret (pe_lc (own := [("name", 4)]) rfl nd (pi_tup (pe_cc c_names_of hr (by decide) (by rfl) (pa_cons (pv 0) pa_nil))) (blkOk_by (own := [("name", 4)]) (N := N_staying) (sc := defScope (top 32)) (by decide +kernel)) (fun _ _ _ _ _ => (pg_name (i := 4) nd rfl (.inl rfl))) (fun _ _ _ _ _ => (pts_one (pt_cmpR op_eq (pe_dget hu (pv 2) (pv 4) (fun _ _ => rfl)) (pe_dget hu (pv 3) (pv 4) (fun _ _ => rfl)) (nomark _)))) (fun _ _ _ _ _ => (pe_tup (pa_cons (pv 4) (pa_cons (pe_dget hu (pv 2) (pv 4) (fun _ _ => rfl)) pa_nil)))))))), ?_⟩
  obtain ⟨a, b, x, y, rfl, hx, hy, ox, oy, hp, q⟩ := h
  refine ⟨_, rfl, a, x, rfl, hx, ox, fun p1 H1 np1 s1 hp1 => ?_⟩
  refine ⟨_, rfl, b, y, rfl, hy.same (Kp.of s1), oy, fun p2 H2 np2 s2 hp2 => ?_⟩
  have hp1' : ParAt H2 p1 x := let ⟨k, e, f⟩ := hp1; ⟨k, s2 _ _ e, f⟩
  refine ⟨by show 2 ≤ sizeLine; decide, fun p3 hp3 => ?_⟩
  generalize hE_H3 : upd H2 p3 _ = H3
  have e3 := (congrFun hE_H3 p3).symm.trans upd_same
  have n3 : ∀ q_, q_ ≠ p3 → H3 q_ = H2 q_ := by subst hE_H3; exact fun q_ h => upd_ne h
  have s3 : Same H2 H3 := by subst hE_H3; exact same_new hp3
  clear hE_H3
  refine ⟨p3, _, rfl, .inl (.inl e3), rfl, _, _, rfl, _, _, rfl, rfl, ?_⟩
  have s03 := (s1.trans s2).trans s3
  refine ⟨_, rfl, a, x, rfl, hx.same (Kp.of s03), ox.short, ox.few, fun p4 H4 s4 t4 => ⟨p4, rfl, ⟨_, t4⟩, fun D hD => ?_⟩⟩
  have hS : stayL x y = (Wd.prs none x).filter fun e => decide (e ∈ Wd.prs none y) := rfl
  obtain ⟨k1, hk1, hv1⟩ := hp1'
  obtain ⟨k2, hk2, hv2⟩ := hp2
  have s34 := s3.trans s4
  refine lc_rel (H1 := H4) (Wd.prs none x) (fun z H v => v = .str z.1) (StAt K) (fun _ _ _ _ s h => h.same s) (fun e => decide (e ∈ Wd.prs none y)) (walk_tup (K := K) (a := p4) (xs := (Wd.nms x).map V.str)) (by rw [List.length_map, prs_len]) ?_ hD ?_ (fun H s => sameT s t4) ?_ ?_
  · rintro i H1 v H2 sm ⟨rfl, hv⟩
    rw [← prs_nms x none, List.map_map, List.getElem?_map] at hv
    cases hz : (Wd.prs none x)[i]? with
    | none => rw [hz] at hv; cases hv
    | some z => rw [hz] at hv; exact ⟨rfl, z, rfl, (Option.some.inj hv).symm⟩
  · rw [prs_len]; have := ox.len; omega
  · intro i z v H5 Qn Qf hi hv s5 k3 k4
    obtain ⟨n, p⟩ := z
    cases hv
    have hin := List.mem_of_getElem? hi
    obtain ⟨p', hp'⟩ := nm_par (hp.subset (par_nm hin))
    have g1 := DGet.k (k := kS n) (s5 _ _ (s34 _ _ hk1))
    have g2 := DGet.k (k := kS n) (s5 _ _ (s34 _ _ hk2))
    rw [hv1 n p hin] at g1
    rw [hv2 n p' hp'] at g2
    refine ⟨rfl, _, rfl, _, rfl, _, _, rfl, g1, _, rfl, _, rfl, _, _, rfl, g2, scal_pV _ _, _, rfl, ?_⟩
    rw [pV_dec]
    have hd : decide (p = p') = decide ((n, p) ∈ Wd.prs none y) := by
      by_cases e : p = p'
      · subst e; rw [decide_eq_true rfl, decide_eq_true hp']
      · rw [decide_eq_false e, decide_eq_false fun z => e (nodup_snd (prs_nd oy) z hp')]
    rw [hd]
    refine ifB (fun h => ?_) (fun h => k4 H5 (Same.refl _) h)
    refine ⟨_, rfl, _, rfl, _, rfl, _, _, rfl, g1, by show 2 ≤ sizeLine; decide, fun t ht => ?_⟩
    generalize hE_H6 : upd H5 t _ = H6
    have e6 := (congrFun hE_H6 t).symm.trans upd_same
    have n6 : ∀ q_, q_ ≠ t → H6 q_ = H5 q_ := by subst hE_H6; exact fun q_ h => upd_ne h
    have s6 : Same H5 H6 := by subst hE_H6; exact same_new ht
    clear hE_H6
    exact k3 H6 _ s6 h ⟨t, rfl, .inl (.inl e6)⟩
  · intro H5 ys s5 hys hal
    exact q D H5 ys ((s03.trans s4).free hD) ((s03.trans s4).trans s5) hys hal
abbrev N_places : List Str := ["wood", "place", "name"]
theorem sc_places : FnScope N_places ["wood"] (defScope (top 33)) := ⟨rfl, rfl, rfl, by decide +kernel, rfl, by decide +kernel, by decide +kernel⟩
theorem cal_places (T : Tp K mg) (F : Fnn K mg "places" 33)  (c_names_of : Cal P w K mg base 3 "names_of" (spNames K)) : Cal P w K mg base 4 "places" (spPlaces K) := by
  have nd := sc_places.nd
  refine cal F (fun _ _ _ _ _ _ us hl => match us, hl with | [_], _ => rfl) sc_places (fun vs H Q E h => by obtain ⟨a, x, rfl, hx, ox, q⟩ := h; rfl) (fun f cdv A outer s H vs Q E hr h => ?_)
  have hu := hu_of hr
  refine ⟨_, (pss_one (ps_ret (pe_dc (own := [("place", 1), ("name", 2)]) rfl nd (pi_enumT (by rfl) T.b_enumerate (pa_cons (pe_cc c_names_of hr (by decide) (by rfl) (pa_cons (pv 0) pa_nil)) pa_nil)) (blkOk_by (own := [("place", 1), ("name", 2)]) (N := N_places) (sc := defScope (top 33)) (by decide +kernel)) (fun _ _ _ _ _ => (pg_tupK (K := K) (n := 2) rfl rfl (pgs_cons (pg_name (i := 1) nd rfl (.inl rfl)) (pgs_cons (pg_name (i := 2) nd rfl (.inl rfl)) pgs_nil)))) (fun _ _ _ _ _ => pts_nil) (fun _ _ _ _ _ => (pv 2)) (fun _ _ _ _ _ => (pv 1))))), ?_⟩
  obtain ⟨a, x, rfl, hx, ox, q⟩ := h
  refine ⟨_, rfl, a, x, rfl, hx, ox.short, ox.few, fun p1 H1 s1 t1 => ⟨p1, _, rfl, t1, fun D hD => ?_⟩⟩
  have hl := ox.len
  refine dc_it (walk_enumT (K := K) (a := p1) (xs := (Wd.nms x).map V.str)) (fun i H' => Same H1 H' ∧ ∃ kvs : List (Key × V), H' D = some (.dK kvs) ∧ kvs.length = i ∧ (∀ j n, j < i → (Wd.nms x)[j]? = some n → valV kvs (kS n) = some (.int (j : Nat))) ∧ ∀ n v, valV kvs (kS n) = some v → ∃ j, j < i ∧ (Wd.nms x)[j]? = some n)
    ⟨same_new hD, [], upd_same, rfl, fun _ _ h => absurd h (Nat.not_lt_zero _), fun _ _ h => nomatch h⟩ (fun i H' _ p => sameT p.1 t1) ?_ ?_
  · rintro i v H2 H3 hi ⟨sm, kvs, hk, hkl, hall, hon⟩ ⟨t, x1, y1, rfl, ht, rfl, e1, e2⟩
    cases e1
    have e2 : ((Wd.nms x).map V.str)[i]? = some y1 := e2
    rw [List.getElem?_map] at e2
    cases hz : (Wd.nms x)[i]? with
    | none => rw [hz] at e2; cases e2
    | some n =>
      rw [hz] at e2
      cases e2
      generalize hE_H4 : upd H2 t _ = H4
      have e4 := (congrFun hE_H4 t).symm.trans upd_same
      have n4 : ∀ q_, q_ ≠ t → H4 q_ = H2 q_ := by subst hE_H4; exact fun q_ h => upd_ne h
      have s4 : Same H2 H4 := by subst hE_H4; exact same_new ht
      clear hE_H4
      refine ⟨t, _, rfl, .inl (.inl e4), rfl, _, _, rfl, _, _, rfl, rfl, rfl, ?_⟩
      have hk4 := s4 _ _ hk
      have hi2 : i < (Wd.nms x).length := (List.getElem?_eq_some_iff.mp hz).1
      have hnew : valV kvs (kS n) = none := by
        cases hv : valV kvs (kS n) with
        | none => rfl
        | some v =>
          obtain ⟨j, hj, hj2⟩ := hon n v hv
          have := (List.getElem?_inj hi2 ox.nd).mp (hz.trans hj2.symm)
          omega
      refine ⟨_, rfl, _, rfl, kvs, kS n, rfl, hk4, by rw [line]; omega, same_mut (sm.trans s4) hD, putK kvs (kS n) (.int (i : Nat)), upd_same, ?_, ?_, ?_⟩
      · rw [putK_new _ hnew, List.length_append, hkl]; rfl
      · intro j n2 hj hj2
        rw [valV_put]
        by_cases e : kS n2 = kS n
        · cases e
          have := (List.getElem?_inj hi2 ox.nd).mp (hz.trans hj2.symm)
          subst this
          rw [if_pos rfl]
        · rw [if_neg e]
          refine hall j n2 ?_ hj2
          rcases Nat.lt_succ_iff_lt_or_eq.mp hj with h | h
          · exact h
          · subst h; rw [hz] at hj2; cases hj2; exact absurd rfl e
      · intro n2 v hv
        rw [valV_put] at hv
        by_cases e : kS n2 = kS n
        · cases e; exact ⟨i, Nat.lt_succ_self _, hz⟩
        · rw [if_neg e] at hv
          obtain ⟨j, h1, h2⟩ := hon n2 v hv
          exact ⟨j, by omega, h2⟩
  · rintro H2 ⟨sm, kvs, hk, hkl, hall, hon⟩
    rw [List.length_map] at hkl hall
    refine q D H2 (s1.free hD) (s1.trans sm) ⟨kvs, hk, hkl, fun n hn => ?_⟩
    have hlt := List.idxOf_lt_length_of_mem hn
    exact hall _ n hlt (by unfold posn; rw [List.getElem?_eq_getElem hlt]; simp)
end
end K76
/-! text W7 -/
set_option Elab.async false
set_option linter.all false
set_option maxRecDepth 100000
set_option maxHeartbeats 4000000
namespace K76
open PySem PySem.Spec PyProof.Rows L2
theorem PlAt.same {H H' : Hp} {a : Addr} {x : Wd Str} (s : Same H H') (h : PlAt H a x) : PlAt H' a x := let ⟨k, e, r⟩ := h; ⟨k, s _ _ e, r⟩
def LenAt (H : Hp) (a : Addr) (x y : Wd Str) : Prop := ∃ kvs : List (Key × V), H a = some (.dK kvs) ∧ kvs.map (·.1) = (stayL x y).map (fun e => kS e.1) ∧ ∀ n p f, (n, p, f) ∈ lensF x y → valV kvs (kS n) = some (.int (f : Nat))
def spLens (K : PySem.W.Frag) : Sp := fun vs H Q _ => ∃ (a b : Addr) (x y : Wd Str), vs = [.ref a, .ref b] ∧ WoodAt K H a x ∧ WoodAt K H b y ∧ WdOk x ∧ WdOk y ∧ (Wd.nms x).Perm (Wd.nms y) ∧
  ∀ p H', H p = none → Same H H' → LenAt H' p x y → Q (.ref p) H'
structure LInv (P : Program) (w : World) (Hs H : Hp) (pf pb : Addr) (F : List (Tri Str)) (fvs : List (Key × V)) (bvs : List (Option Str × V)) : Prop where
  sx : ∀ c o, c ≠ pf → c ≠ pb → Hs c = some o → H c = some o
  f : H pf = some (.dK fvs)
  b : H pb = some (LD P w pb bvs)
  fk : fvs.map (·.1) = F.map (fun e => kS e.1)
  fv : ∀ n p f, (n, p, f) ∈ F → valV fvs (kS n) = some (.int (f : Nat))
  bv : ∀ p, (valV bvs p = none ∧ ofP F p = []) ∨ ∃ b, valV bvs p = some (.ref b) ∧ H b = some (.lst ((ofP F p).map fun e => V.str e.1)) ∧ Hs b = none
  inj : ∀ p q b, valV bvs p = some (.ref b) → valV bvs q = some (.ref b) → p = q
theorem stay_nd {x y : Wd Str} (ok : WdOk x) : ((stayL x y).map (·.1)).Nodup :=
  List.Nodup.sublist (List.Sublist.map (·.1) (List.filter_sublist (p := fun e => decide (e ∈ Wd.prs none y)) (l := Wd.prs none x))) (prs_nd ok)
theorem stay_le {x y : Wd Str} (ok : WdOk x) : (stayL x y).length ≤ 200 := by
  have h := List.length_filter_le (fun e => decide (e ∈ Wd.prs none y)) (Wd.prs none x)
  have h2 := prs_len x none
  have h3 := ok.len
  unfold stayL
  omega
theorem LInv.sm {P : Program} {w : World} {H1 Hs H : Hp} {pf pb : Addr} {F : List (Tri Str)} {fvs : List (Key × V)} {bvs : List (Option Str × V)} (I : LInv P w Hs H pf pb F fvs bvs) (s : Same H1 Hs) (hf : H1 pf = none) (hb : H1 pb = none) : Same H1 H :=
  fun c o e => I.sx c o (fun z => by subst z; rw [hf] at e; cases e) (fun z => by subst z; rw [hb] at e; cases e) (s c o e)
theorem LInv.fresh {P : Program} {w : World} {Hs H : Hp} {pf pb : Addr} {F : List (Tri Str)} {fvs : List (Key × V)} {bvs : List (Option Str × V)} (I : LInv P w Hs H pf pb F fvs bvs) {p : Addr} (h : H p = none) : Hs p = none := by
  cases z : Hs p with
  | none => rfl
  | some o =>
    have := I.sx p o (fun e => by subst e; rw [I.f] at h; cases h) (fun e => by subst e; rw [I.b] at h; cases h) z
    rw [this] at h; cases h
theorem LInv.more {P : Program} {w : World} {Hs H H' : Hp} {pf pb : Addr} {F : List (Tri Str)} {fvs : List (Key × V)} {bvs : List (Option Str × V)} (I : LInv P w Hs H pf pb F fvs bvs) (s : Same H H') : LInv P w Hs H' pf pb F fvs bvs :=
  ⟨fun c o h1 h2 h3 => s _ _ (I.sx c o h1 h2 h3), s _ _ I.f, s _ _ I.b, I.fk, I.fv, fun p => (I.bv p).imp id fun ⟨b, h1, h2, h3⟩ => ⟨b, h1, s _ _ h2, h3⟩, I.inj⟩
theorem not_list {o : HO} {ys : List V} : o = .lst ys → ¬ Imm o := fun e i => by subst e; exact i
section
variable {P : Program} {w : World} {K : PySem.W.Frag} {mg : Str → Option Value} {base : Heap}
abbrev N_lengths : List Str := ["one", "other", "there", "found", "by_parent", "name", "parent", "ahead", "best", "earlier"]
theorem sc_lengths : FnScope N_lengths ["one", "other"] (defScope (top 34)) := ⟨rfl, rfl, rfl, by decide +kernel, rfl, by decide +kernel, by decide +kernel⟩
theorem cal_lengths (T : Tp K mg) (F : Fnn K mg "lengths" 34)  (c_places : Cal P w K mg base 4 "places" (spPlaces K)) (c_staying : Cal P w K mg base 4 "staying" (spStaying K)) : Cal P w K mg base 5 "lengths" (spLens K) := by
  have nd := sc_lengths.nd
  refine cal F (fun _ _ _ _ _ _ us hl => match us, hl with | [_, _], _ => rfl) sc_lengths (fun vs H Q E h => by obtain ⟨a, b0, x, y, rfl, hx, hy, ox, oy, hp, q⟩ := h; rfl) (fun f cdv A outer s H vs Q E hr h => ?_)
  have hu := hu_of hr
  refine ⟨_, (pss_cons (ps_set (i := 2) nd rfl (.inl rfl) (pe_cc c_places hr (by decide) (by rfl) (pa_cons (pv 1) pa_nil)))
      (pss_cons (ps_set (i := 3) nd rfl (.inl rfl) pe_dnewK)
      (pss_cons (ps_set (i := 4) nd rfl (.inl rfl) pe_ldnew)
      (pss_cons (ps_for PassesOwn.never rfl (pi_list (pe_cc c_staying hr (by decide) (by rfl) (pa_cons (pv 0) (pa_cons (pv 1) pa_nil)))) (pg_tup rfl (pgs_cons (pg_name (i := 5) nd rfl (.inl rfl)) (pgs_cons (pg_name (i := 6) nd rfl (.inl rfl)) pgs_nil))) (C8.pss_cut (ps_set (i := 7) nd rfl (.inl rfl) (pe_ldsetd (pv 4) (pv 6) (pe_lst pa_nil) ⟨rfl, rfl, rfl, rfl⟩))
      (pss_cons (ps_set (i := 8) nd rfl (.inl rfl) pe_int)
      (pss_cons (ps_for PassesOwn.never rfl (pi_list (pv 7)) (pg_name (i := 9) nd rfl (.inl rfl)) (pss_one (ps_if (PW.pt (pw_and (pt_cmpR op_lt (pe_dget hu (pv 2) (pv 9) (fun _ _ => rfl)) (pe_dget hu (pv 2) (pv 5) (fun _ _ => rfl)) (nomark _)) (pw_and1 (pt_cmpR op_gt (pe_dget hu (pv 3) (pv 9) (fun _ _ => rfl)) (pv 8) (nomark _))))) (pss_one (ps_set (i := 8) nd rfl (.inl rfl) (pe_dget hu (pv 3) (pv 9) (fun _ _ => rfl)))) pss_nil)))
      (pss_cons (ps_dput hu (pv 3) (pv 5) (pe_op op_add (pv 8) pe_int) rfl)
      (pss_one (ps_expr (pe_bm PySem.F.plainAttrs_list PySem.F.slot_list_append PySem.F.type_list_append mt_append (pv 7) (pa_cons (pv 5) pa_nil)))))))))
      (pss_one (ps_ret (pv 3))))))), ?_⟩
  obtain ⟨a, b0, x, y, rfl, hx, hy, ox, oy, hp, q⟩ := h
  refine ⟨_, rfl, b0, y, rfl, hy, oy, fun pt H1 npt s1 hpt => ?_⟩
  intro pf hpf
  generalize hE_Hf : upd H1 pf _ = Hf
  have e2 := (congrFun hE_Hf pf).symm.trans upd_same
  have n2 : ∀ q_, q_ ≠ pf → Hf q_ = H1 q_ := by subst hE_Hf; exact fun q_ h => upd_ne h
  have s2 : Same H1 Hf := by subst hE_Hf; exact same_new hpf
  clear hE_Hf
  intro pb hpb
  generalize hE_Hb : upd Hf pb _ = Hb
  have e3 := (congrFun hE_Hb pb).symm.trans upd_same
  have n3 : ∀ q_, q_ ≠ pb → Hb q_ = Hf q_ := by subst hE_Hb; exact fun q_ h => upd_ne h
  have s3 : Same Hf Hb := by subst hE_Hb; exact same_new hpb
  clear hE_Hb
  have hpb1 : H1 pb = none := s2.free hpb
  have nfb : pf ≠ pb := ne_of_none e2 hpb
  refine ⟨_, rfl, _, rfl, a, b0, x, y, rfl, hx.same (Kp.of ((s1.trans s2).trans s3)), hy.same (Kp.of ((s1.trans s2).trans s3)), ox, oy, hp, fun pl Hs ys npl s4 hpl hal => ⟨pl, rfl, ⟨_, .inl (.inl hpl)⟩, ?_⟩⟩
  have nlf : pl ≠ pf := fun z => by subst z; rw [s3 _ _ e2] at npl; cases npl
  have nlb : pl ≠ pb := fun z => by subst z; rw [e3] at npl; cases npl
  have hlen := stay_le (y := y) ox
  have hll := hal.len
  obtain ⟨tv, htv, htl, htp⟩ := hpt
  have hHf : Hs pf = some (.dK []) := s4 _ _ (s3 _ _ e2)
  have hHb : Hs pb = some (LD P w pb []) := s4 _ _ e3
  have s1s := (s2.trans s3).trans s4
  refine for_it (walk_list (K := K) (a := pl) (xs := ys)) (fun i σ' H' => ∃ (u5 u6 u7 u8 u9 : Option V) (F : List (Tri Str)) (fvs : List (Key × V)) (bvs : List (Option Str × V)), σ' = [some (.ref a), some (.ref b0), some (.ref pt), some (.ref pf), some (.ref pb), u5, u6, u7, u8, u9] ∧
    LInv P w Hs H' pf pb F fvs bvs ∧ lensA (posn y) F ((stayL x y).drop i) = lensF x y ∧ F.map (fun e => (e.1, e.2.1)) = (stayL x y).take i ∧ bvs.length ≤ i)
    ⟨_, _, _, _, _, [], [], [], rfl, ⟨fun _ _ _ _ h => h, hHf, hHb, rfl, (fun _ _ _ h => nomatch h), fun p => .inl ⟨rfl, rfl⟩, (fun _ _ _ h => nomatch h)⟩, rfl, rfl, Nat.le_refl _⟩ ?_ ?_ ?_
  · rintro i σ' H' hi ⟨u5, u6, u7, u8, u9, F, fvs, bvs, rfl, I, _⟩
    exact .inl (.inl (I.sx _ _ nlf nlb hpl))
  · rintro i v σ' H2 H3 hi ⟨u5, u6, u7, u8, u9, F, fvs, bvs, rfl, I, hF, hFm, hbl⟩ ⟨rfl, hv⟩
    obtain ⟨⟨n, p⟩, hz, hst⟩ := hal.get hv
    have kp : Kp Hs H3 := fun c o i e => I.sx c o (fun z => by subst z; rw [hHf] at e; cases e; exact i) (fun z => by subst z; rw [hHb] at e; cases e; exact i) e
    obtain ⟨t, rfl, ht⟩ := StAt.same kp hst
    have hi2 : i < (stayL x y).length := by omega
    have hFl : F.length = i := by
      have z := congrArg List.length hFm
      rw [List.length_map, List.length_take] at z
      omega
    have hdrop : (stayL x y).drop i = (n, p) :: (stayL x y).drop (i + 1) := by
      rw [List.drop_eq_getElem_cons hi2]
      have := (List.getElem?_eq_some_iff.mp hz).2
      rw [this]
    rw [hdrop] at hF
    have hnF : n ∉ F.map (·.1) := by
      have h1 : F.map (·.1) = ((stayL x y).take i).map (·.1) := by rw [← hFm, List.map_map]; rfl
      rw [h1]
      intro hm
      have nd := stay_nd (y := y) ox
      rw [← List.take_append_drop i (stayL x y), List.map_append, hdrop, List.nodup_append] at nd
      exact nd.2.2 _ hm _ (by simp) rfl
    have hny : n ∈ Wd.nms y := par_nm (stay_mem.mp (List.mem_of_getElem? hz)).2
    have hFy : ∀ e ∈ F, e.1 ∈ Wd.nms y := fun e he => by
      have : (e.1, e.2.1) ∈ stayL x y := List.mem_of_mem_take (hFm ▸ List.mem_map_of_mem (f := fun e : Tri Str => (e.1, e.2.1)) he)
      exact par_nm (stay_mem.mp this).2
    refine ⟨t, _, rfl, ht, rfl, _, _, rfl, _, _, rfl, rfl, ?_⟩
    refine ⟨fun σ' H' => ∃ (b : Addr) (bvs' : List (Option Str × V)), σ' = [some (.ref a), some (.ref b0), some (.ref pt), some (.ref pf), some (.ref pb), some (.str n), some (pV p), some (.ref b), u8, u9] ∧ LInv P w Hs H' pf pb F fvs bvs' ∧ bvs'.length ≤ i + 1 ∧ valV bvs' p = some (.ref b), ?_, ?_⟩
    · refine ⟨_, rfl, ⟨_, _, rfl, I.b⟩, _, rfl, by decide, fun pn hpn => ?_⟩
      generalize hE_H4 : upd H3 pn _ = H4
      have e5 := (congrFun hE_H4 pn).symm.trans upd_same
      have n5 : ∀ q_, q_ ≠ pn → H4 q_ = H3 q_ := by subst hE_H4; exact fun q_ h => upd_ne h
      have s5 : Same H3 H4 := by subst hE_H4; exact same_new hpn
      clear hE_H4
      have I4 := I.more s5
      refine ⟨pb, bvs, p, rfl, rfl, I4.b, by rw [line]; omega, fun v hv => ?_, fun hv => ?_⟩
      · rcases I.bv p with ⟨h, _⟩ | ⟨b, h1, h2, h3⟩
        · rw [h] at hv; cases hv
        rw [h1] at hv
        cases hv
        exact ⟨b, bvs, rfl, I4, by omega, h1⟩
      · have hb4 := I4.b
        generalize hE_H5 : upd H4 pb _ = H5
        have e6 := (congrFun hE_H5 pb).symm.trans upd_same
        have n6 : ∀ q_, q_ ≠ pb → H5 q_ = H4 q_ := by subst hE_H5; exact fun q_ h => upd_ne h
        have k6 : Kp H4 H5 := by subst hE_H5; exact Kp.mut hb4 (fun z => z)
        have m6 : ∀ H0, Same H0 H4 → H0 pb = none → Same H0 H5 := by subst hE_H5; exact fun _ s h => same_mut s h
        clear hE_H5
        have hpnb : pn ≠ pb := fun z => by subst z; rw [I.b] at hpn; cases hpn
        have hpns : Hs pn = none := I.fresh hpn
        refine ⟨pn, _, rfl, ⟨fun c o h1 h2 h3 => (n6 c h2).trans (I4.sx c o h1 h2 h3), (n6 pf nfb).trans I4.f, e6, I.fk, I.fv, fun p2 => ?_, ?_⟩, ?_, ?_⟩
        · rw [valV_put]
          by_cases e : p2 = p
          · subst e
            rcases I.bv p2 with ⟨_, h⟩ | ⟨b, h1, _⟩
            · refine .inr ⟨pn, by rw [if_pos rfl], ?_, hpns⟩
              rw [n6 pn hpnb, e5, h]
              rfl
            · rw [hv] at h1; cases h1
          · rw [if_neg e]
            rcases I.bv p2 with h | ⟨b, h1, h2, h3⟩
            · exact .inl h
            · refine .inr ⟨b, h1, (n6 b ?_).trans (s5 _ _ h2), h3⟩
              intro z; subst z; rw [I.b] at h2; cases h2
        · intro p1 p2 b h1 h2
          have nb : ∀ p', valV bvs p' = some (.ref b) → b ≠ pn := fun p' h z => by
            subst z
            rcases I.bv p' with ⟨h0, _⟩ | ⟨b', h1, h2, h3⟩
            · rw [h0] at h; cases h
            · rw [h1] at h; cases h; rw [hpn] at h2; cases h2
          rw [valV_put] at h1 h2
          by_cases c1 : p1 = p <;> by_cases c2 : p2 = p
          · rw [c1, c2]
          · rw [if_pos c1] at h1; rw [if_neg c2] at h2; cases h1; exact absurd rfl (nb _ h2)
          · rw [if_pos c2] at h2; rw [if_neg c1] at h1; cases h2; exact absurd rfl (nb _ h1)
          · rw [if_neg c1] at h1; rw [if_neg c2] at h2; exact I.inj _ _ _ h1 h2
        · have := putlen bvs p (V.ref pn); omega
        · rw [valV_put, if_pos rfl]
    · rintro σ' H4 ⟨b, bvs', rfl, J, hbl', hb⟩
      have smJ := J.sm s1s hpf hpb1
      obtain ⟨b', hb1, hb2, hb3⟩ : ∃ b, valV bvs' p = some (.ref b) ∧ H4 b = some (.lst ((ofP F p).map fun e => V.str e.1)) ∧ Hs b = none := by
        rcases J.bv p with ⟨h, _⟩ | h
        · rw [h] at hb; cases hb
        · exact h
      rw [hb] at hb1
      cases hb1
      have htv4 := smJ _ _ htv
      refine ⟨_, rfl, b, rfl, ⟨_, .inl (.inl hb2)⟩, ?_⟩
      refine for_it (walk_list (K := K) (a := b) (xs := (ofP F p).map fun e => V.str e.1)) (fun j σ' H' => H' = H4 ∧ ∃ u9 : Option V, σ' = [some (.ref a), some (.ref b0), some (.ref pt), some (.ref pf), some (.ref pb), some (.str n), some (pV p), some (.ref b), some (.int (bst (posn y) (posn y n) ((ofP F p).take j) : Nat)), u9])
        ⟨rfl, _, rfl⟩ (fun _ _ _ _ h => by rw [h.1]; exact .inl (.inl hb2)) ?_ ?_
      · rintro j v σ' H5 H6 hj ⟨rfl, u9, rfl⟩ ⟨rfl, hv⟩
        have hv : ((ofP F p).map fun e => V.str e.1)[j]? = some v := hv
        rw [List.getElem?_map] at hv
        cases hz2 : (ofP F p)[j]? with
        | none => rw [hz2] at hv; cases hv
        | some e =>
          rw [hz2] at hv
          cases hv
          obtain ⟨m, k⟩ := e
          have hmF : (m, p, k) ∈ F := mem_ofP.mp (List.mem_of_getElem? hz2)
          have g1 := DGet.k (k := kS m) htv4
          rw [htp m (hFy _ hmF)] at g1
          have g2 := DGet.k (k := kS n) htv4
          rw [htp n hny] at g2
          have g3 := DGet.k (k := kS m) J.f
          rw [J.fv m p k hmF] at g3
          have step : bst (posn y) (posn y n) ((ofP F p).take (j + 1)) = if posn y m < posn y n ∧ bst (posn y) (posn y n) ((ofP F p).take j) < k then k else bst (posn y) (posn y n) ((ofP F p).take j) := by
            rw [List.take_add_one, hz2]
            unfold bst
            rw [List.foldl_append]
            rfl
          refine ⟨_, rfl, _, rfl, _, _, rfl, g1, _, rfl, _, rfl, _, _, rfl, g2, _, _, rfl, rfl, _, rfl, ?_⟩
          by_cases c1 : posn y m < posn y n
          · refine ifE true (decide_eq_true (by omega)) ⟨_, rfl, _, rfl, _, _, rfl, g3, _, rfl, _, _, rfl, rfl, _, rfl, ?_⟩
            by_cases c2 : bst (posn y) (posn y n) ((ofP F p).take j) < k
            · refine ifE true (decide_eq_true (by omega)) ⟨_, rfl, _, rfl, _, _, rfl, g3, rfl, some (.str m), ?_⟩
              rw [step, if_pos ⟨c1, c2⟩]
              rfl
            · refine ifE false (decide_eq_false (by omega)) ⟨rfl, some (.str m), ?_⟩
              rw [step, if_neg fun z => c2 z.2]
              rfl
          · refine ifE false (decide_eq_false (by omega)) ⟨rfl, some (.str m), ?_⟩
            rw [step, if_neg fun z => c1 z.1]
            rfl
      · rintro σ' H5 ⟨rfl, u9, rfl⟩
        rw [List.length_map, List.take_length]
        have hfl : fvs.length = i := by
          have z := congrArg List.length J.fk
          rw [List.length_map, List.length_map] at z
          omega
        have hfnew : valV fvs (kS n) = none := by
          cases z : valV fvs (kS n) with
          | none => rfl
          | some v =>
            have h1 := valV_in z
            rw [J.fk] at h1
            obtain ⟨e, he, h2⟩ := List.mem_map.mp h1
            cases h2
            exact absurd (List.mem_map_of_mem (f := fun e : Tri Str => e.1) he) hnF
        refine ⟨_, rfl, _, _, rfl, rfl, _, rfl, _, rfl, pf, _, rfl, DPut.k (k := kS n) J.f (by rw [line]; omega), ?_⟩
        have hJf := J.f
        generalize hE_H6 : upd H5 pf _ = H6
        have e7 := (congrFun hE_H6 pf).symm.trans upd_same
        have n7 : ∀ q_, q_ ≠ pf → H6 q_ = H5 q_ := by subst hE_H6; exact fun q_ h => upd_ne h
        have k7 : Kp H5 H6 := by subst hE_H6; exact Kp.mut hJf (fun z => z)
        have m7 : ∀ H0, Same H0 H5 → H0 pf = none → Same H0 H6 := by subst hE_H6; exact fun _ s h => same_mut s h
        clear hE_H6
        have nbf : b ≠ pf := fun z => by subst z; rw [J.f] at hb2; cases hb2
        have nbb : b ≠ pb := fun z => by subst z; rw [J.b] at hb2; cases hb2
        have hb6 := (n7 b nbf).trans hb2
        have hofl : (ofP F p).length ≤ 200 := by
          have : (ofP F p).length ≤ F.length := by unfold ofP; rw [List.length_map]; exact List.length_filter_le _ _
          omega
        refine ⟨_, rfl, .inl ⟨rfl, _, .inl (.inl hb6)⟩, _, rfl, b, _, _, rfl, rfl, hb6, by rw [line, List.length_map]; omega, ?_⟩
        generalize hE_H7 : upd H6 b _ = H7
        have e8 := (congrFun hE_H7 b).symm.trans upd_same
        have n8 : ∀ q_, q_ ≠ b → H7 q_ = H6 q_ := by subst hE_H7; exact fun q_ h => upd_ne h
        have k8 : Kp H6 H7 := by subst hE_H7; exact Kp.mut hb6 (fun z => z)
        have m8 : ∀ H0, Same H0 H6 → H0 b = none → Same H0 H7 := by subst hE_H7; exact fun _ s h => same_mut s h
        clear hE_H7
        have hbest : bst (posn y) (posn y n) (ofP F p) = best (posn y) F p (posn y n) := rfl
        have hof : ∀ p2, ofP (F ++ [(n, p, best (posn y) F p (posn y n) + 1)]) p2 = ofP F p2 ++ (if p = p2 then [(n, best (posn y) F p (posn y n) + 1)] else []) := fun p2 => by
          unfold ofP
          rw [List.filter_append, List.map_append]
          congr 1
          by_cases e : p = p2
          · subst e; simp
          · simp [e]
        refine ⟨_, _, _, _, _, F ++ [(n, p, best (posn y) F p (posn y n) + 1)], _, bvs', rfl, ⟨fun c o h1 h2 h3 => ?_, (n8 pf (Ne.symm nbf)).trans e7, (n8 pb (Ne.symm nbb)).trans ((n7 pb (Ne.symm nfb)).trans J.b), ?_, ?_, ?_, J.inj⟩, hF, ?_, by omega⟩
        · have nc : c ≠ b := fun z => by subst z; rw [hb3] at h3; cases h3
          exact (n8 c nc).trans ((n7 c h1).trans (J.sx c o h1 h2 h3))
        · rw [putK_new _ hfnew, List.map_append, List.map_append, J.fk]; rfl
        · intro n2 p2 f2 h
          rw [valV_put]
          rcases List.mem_append.mp h with h | h
          · have : kS n2 ≠ kS n := fun z => by cases z; exact hnF (List.mem_map_of_mem (f := fun e : Tri Str => e.1) h)
            rw [if_neg this]; exact J.fv n2 p2 f2 h
          · rw [List.mem_singleton] at h
            cases h
            rw [if_pos rfl, ← hbest]
            rfl
        · intro p2
          rw [hof]
          by_cases e : p = p2
          · subst e
            refine .inr ⟨b, hb, ?_, hb3⟩
            rw [if_pos rfl, e8, List.map_append]
            rfl
          · rw [if_neg e, List.append_nil]
            rcases J.bv p2 with h | ⟨b2, h1, h2, h3⟩
            · exact .inl h
            · refine .inr ⟨b2, h1, (n8 b2 ?_).trans ((n7 b2 ?_).trans h2), h3⟩
              · intro z; subst z; exact e (J.inj _ _ _ hb h1)
              · intro z; subst z; rw [J.f] at h2; cases h2
        · rw [List.map_append, hFm, List.take_add_one, hz]; rfl
  · rintro σ' H2 ⟨u5, u6, u7, u8, u9, F, fvs, bvs, rfl, I, hF, hFm, hbl⟩
    rw [hll, List.drop_length] at hF
    have hF2 : F = lensF x y := hF
    subst hF2
    refine ⟨_, rfl, q pf H2 (s1.free hpf) (s1.trans (I.sm s1s hpf hpb1)) ⟨fvs, I.f, ?_, I.fv⟩⟩
    rw [I.fk, ← F_map, List.map_map]
    rfl
end
end K76
/-! text W8 -/
set_option Elab.async false
set_option linter.all false
set_option maxRecDepth 100000
set_option maxHeartbeats 4000000
namespace K76
open PySem PySem.Spec PyProof.Rows L2
abbrev Val := List (Str × Nat)
def PrAt (K : PySem.W.Frag) (H : Hp) (v : V) (z : Str × Nat) : Prop := ∃ t, v = .ref t ∧ SqT K H t [.str z.1, .int (z.2 : Nat)]
theorem PrAt.same {K : PySem.W.Frag} {H H' : Hp} (s : Kp H H') {v : V} {z : Str × Nat} (h : PrAt K H v z) : PrAt K H' v z := let ⟨t, e, q⟩ := h; ⟨t, e, s.T q⟩
def ValAt (K : PySem.W.Frag) (H : Hp) (a : Addr) (val : Val) : Prop := ∃ vs, SqT K H a vs ∧ Al (PrAt K H) vs val
theorem ValAt.same {K : PySem.W.Frag} {H H' : Hp} {a : Addr} {val : Val} (s : Kp H H') (h : ValAt K H a val) : ValAt K H' a val := let ⟨vs, h1, h2⟩ := h; ⟨vs, s.T h1, h2.mono fun _ _ h => h.same s⟩
def lblOf (x y : Wd Str) (n : Str) : Nat := match (lensF x y).find? (fun e => decide (e.1 = n)) with
  | some e => e.2.2 - 1
  | none => 0
theorem lens_nd {x y : Wd Str} (ok : WdOk x) : ((lensF x y).map (·.1)).Nodup := by rw [F_names]; exact stay_nd ok
theorem lbl_of {x y : Wd Str} (ok : WdOk x) {n : Str} {p : Option Str} {f : Nat} (h : (n, p, f) ∈ lensF x y) : lblOf x y n = f - 1 := by
  unfold lblOf
  cases e : (lensF x y).find? (fun e => decide (e.1 = n)) with
  | none => exact absurd (List.find?_eq_none.mp e _ h) (by simp)
  | some z =>
    have h1 := List.mem_of_find?_eq_some e
    have h2 := List.find?_some e
    have h3 : z.1 = n := of_decide_eq_true h2
    obtain ⟨m, pf⟩ := z
    simp only at h3
    subst h3
    have nd : ((lensF x y).map (fun e => (e.1, e.2))).map (·.1) = (lensF x y).map (·.1) := by simp
    have := nd_snd2 (lens_nd (y := y) ok) h1 h
    rw [this]
def spLabels (K : PySem.W.Frag) : Sp := fun vs H Q _ => ∃ (a b : Addr) (x y : Wd Str), vs = [.ref a, .ref b] ∧ WoodAt K H a x ∧ WoodAt K H b y ∧ WdOk x ∧ WdOk y ∧ (Wd.nms x).Perm (Wd.nms y) ∧
  ∀ p H' ys, Same H H' → ys.Perm ((stayL x y).map (·.1)) → sortedS ys = true → ValAt K H' p (ys.map fun n => (n, lblOf x y n)) → Q (.ref p) H'
def spResting (K : PySem.W.Frag) : Sp := fun vs H Q _ => ∃ (a b : Addr) (x y : Wd Str), vs = [.ref a, .ref b] ∧ WoodAt K H a x ∧ WoodAt K H b y ∧ WdOk x ∧ WdOk y ∧ (Wd.nms x).Perm (Wd.nms y) ∧
  ∀ p H', H p = none → Same H H' → H' p = some (.lst ((restN x y).map V.str)) → Q (.ref p) H'
def spLeast (K : PySem.W.Frag) : Sp := fun vs H Q _ => ∃ (a b : Addr) (x y : Wd Str), vs = [.ref a, .ref b] ∧ WoodAt K H a x ∧ WoodAt K H b y ∧ WdOk x ∧ WdOk y ∧ (Wd.nms x).Perm (Wd.nms y) ∧
  Ans H (.int (((Wd.nms x).length : Int) - ((restN x y).length : Int))) Q
def fewL (x y : Wd Str) : List (Mv Str) := few (fun n => decide (n ∈ restN x y)) [] (Wd.prs none y)
def spFewest (K : PySem.W.Frag) : Sp := fun vs H Q _ => ∃ (a b : Addr) (x y : Wd Str), vs = [.ref a, .ref b] ∧ WoodAt K H a x ∧ WoodAt K H b y ∧ WdOk x ∧ WdOk y ∧ (Wd.nms x).Perm (Wd.nms y) ∧
  ∀ p H', Same H H' → MvsAt K H' p (fewL x y) → Q (.ref p) H'
section
variable {P : Program} {w : World} {K : PySem.W.Frag} {mg : Str → Option Value} {base : Heap}
abbrev N_labels : List Str := ["one", "other", "found", "name"]
theorem sc_labels : FnScope N_labels ["one", "other"] (defScope (top 35)) := ⟨rfl, rfl, rfl, by decide +kernel, rfl, by decide +kernel, by decide +kernel⟩
theorem cal_labels (T : Tp K mg) (F : Fnn K mg "labels" 35)  (c_require_alike : Cal P w K mg base 4 "require_alike" (spAlike K)) (c_lengths : Cal P w K mg base 5 "lengths" (spLens K)) : Cal P w K mg base 6 "labels" (spLabels K) := by
  have nd := sc_labels.nd
  refine cal F (fun _ _ _ _ _ _ us hl => match us, hl with | [_, _], _ => rfl) sc_labels (fun vs H Q E h => by obtain ⟨a, b, x, y, rfl, hx, hy, ox, oy, hp, q⟩ := h; rfl) (fun f cdv A outer s H vs Q E hr h => ?_)
  have hu := hu_of hr
  refine ⟨_, (pss_cons (ps_expr (pe_cc c_require_alike hr (by decide) (by rfl) (pa_cons (pv 0) (pa_cons (pv 1) pa_nil))))
      (pss_cons (ps_set (i := 2) nd rfl (.inr rfl) (pe_cc c_lengths hr (by decide) (by rfl) (pa_cons (pv 0) (pa_cons (pv 1) pa_nil))))
      (pss_one (ps_ret (pe_callTy call_tuple_of (by rfl) T.b_tuple (by decide +kernel) (pa_cons (pe_lc (own := [("name", 3)]) rfl nd (pi_list (pe_callB cr_sortS (by rfl) T.b_sorted (by decide +kernel) (pa_cons (pe_callTy (call_list_keys rfl) (by rfl) T.b_list (by decide +kernel) (pa_cons (pe_keysV (pv 2)) pa_nil)) pa_nil))) (blkOk_by (own := [("name", 3)]) (N := N_labels) (sc := defScope (top 35)) (by decide +kernel)) (fun _ _ _ _ _ => (pg_name (i := 3) nd rfl (.inl rfl))) (fun _ _ _ _ _ => pts_nil) (fun _ _ _ _ _ => (pe_tup (pa_cons (pv 3) (pa_cons (pe_op op_sub (pe_dget hu (pv 2) (pv 3) (fun _ _ => rfl)) pe_int) pa_nil))))) pa_nil)))))), ?_⟩
  obtain ⟨a, b, x, y, rfl, hx, hy, ox, oy, hp, q⟩ := h
  refine ⟨_, rfl, _, rfl, a, b, x, y, rfl, hx, hy, ox, oy, hp, fun H1 s1 => ?_⟩
  refine ⟨_, rfl, _, rfl, a, b, x, y, rfl, hx.same (Kp.of s1), hy.same (Kp.of s1), ox, oy, hp, fun pf H2 npf s2 hpf => ?_⟩
  obtain ⟨fvs, hf, hfk, hfv⟩ := hpf
  refine ⟨_, rfl, pf, fvs, rfl, hf, fun v hv => ?_⟩
  generalize hE_H3 : upd H2 v _ = H3
  have e3 := (congrFun hE_H3 v).symm.trans upd_same
  have n3 : ∀ q_, q_ ≠ v → H3 q_ = H2 q_ := by subst hE_H3; exact fun q_ h => upd_ne h
  have s3 : Same H2 H3 := by subst hE_H3; exact same_new hv
  clear hE_H3
  refine ⟨v, pf, fvs, rfl, e3, s3 _ _ hf, fun l hl => ?_⟩
  generalize hE_H4 : upd H3 l _ = H4
  have e4 := (congrFun hE_H4 l).symm.trans upd_same
  have n4 : ∀ q_, q_ ≠ l → H4 q_ = H3 q_ := by subst hE_H4; exact fun q_ h => upd_ne h
  have s4 : Same H3 H4 := by subst hE_H4; exact same_new hl
  clear hE_H4
  have hkeys : (fvs.map fun kv => kV kv.1) = ((stayL x y).map (·.1)).map V.str := by
    rw [show (fvs.map fun kv => kV kv.1) = (fvs.map (·.1)).map kV by rw [List.map_map]; rfl, hfk, List.map_map, List.map_map]
    rfl
  rw [hkeys] at e4
  refine ⟨l, _, rfl, .inl (.inl e4), fun ys p5 hpm hso hp5 => ?_⟩
  generalize hE_H5 : upd H4 p5 _ = H5
  have e5 := (congrFun hE_H5 p5).symm.trans upd_same
  have n5 : ∀ q_, q_ ≠ p5 → H5 q_ = H4 q_ := by subst hE_H5; exact fun q_ h => upd_ne h
  have s5 : Same H4 H5 := by subst hE_H5; exact same_new hp5
  clear hE_H5
  have s25 := (s3.trans s4).trans s5
  have hf5 := s25 _ _ hf
  refine ⟨p5, rfl, ⟨_, .inl (.inl e5)⟩, fun D hD => ?_⟩
  refine lc_rel (H1 := H5) ys (fun n H v => v = .str n) (fun H v n => PrAt K H v (n, lblOf x y n)) (fun _ _ _ _ s h => h.same s) (fun _ => true) (walk_list (K := K) (a := p5) (xs := ys.map V.str)) (by simp) ?_ hD ?_ (fun H s => .inl (.inl (s _ _ e5))) ?_ ?_
  · rintro i H1 v H2 sm ⟨rfl, hv⟩
    rw [List.getElem?_map] at hv
    cases hz : ys[i]? with
    | none => rw [hz] at hv; cases hv
    | some z => rw [hz] at hv; exact ⟨rfl, z, rfl, (Option.some.inj hv).symm⟩
  · have := hpm.length_eq
    have h2 := stay_le (y := y) ox
    rw [List.length_map] at this
    omega
  · intro i n v H6 Qn Qf hi hv s6 k1 k2
    cases hv
    have hn : n ∈ (stayL x y).map (·.1) := hpm.subset (List.mem_of_getElem? hi)
    obtain ⟨z, hz, rfl⟩ := List.mem_map.mp hn
    obtain ⟨f, hF⟩ := stay_F (x := z.1) (p := z.2) hz
    have g := DGet.k (k := kS z.1) (s6 _ _ hf5)
    rw [hfv _ _ _ hF] at g
    refine ⟨rfl, _, rfl, _, rfl, _, rfl, _, _, rfl, g, _, _, rfl, rfl, by show 2 ≤ sizeLine; decide, fun t ht => ?_⟩
    generalize hE_H7 : upd H6 t _ = H7
    have e7 := (congrFun hE_H7 t).symm.trans upd_same
    have n7 : ∀ q_, q_ ≠ t → H7 q_ = H6 q_ := by subst hE_H7; exact fun q_ h => upd_ne h
    have s7 : Same H6 H7 := by subst hE_H7; exact same_new ht
    clear hE_H7
    refine k1 H7 _ s7 rfl ⟨t, rfl, .inl (.inl ?_)⟩
    rw [e7, lbl_of ox hF]
    have := good_pos good_F hF
    have e : ((f : Int) - 1) = ((f - 1 : Nat) : Int) := by omega
    show some (HO.tup [V.str z.1, V.int ((f : Int) - 1)]) = _
    rw [e]
  · intro H6 zs s6 hzs hal
    rw [flt_all] at hal
    refine ⟨D, _, rfl, .inl ⟨.inl (.inl hzs), fun p7 hp7 => ?_⟩⟩
    generalize hE_H7 : upd H6 p7 _ = H7
    have e7 := (congrFun hE_H7 p7).symm.trans upd_same
    have n7 : ∀ q_, q_ ≠ p7 → H7 q_ = H6 q_ := by subst hE_H7; exact fun q_ h => upd_ne h
    have s7 : Same H6 H7 := by subst hE_H7; exact same_new hp7
    clear hE_H7
    refine q p7 H7 ys ((((s1.trans s2).trans s25).trans s6).trans s7) hpm hso ⟨zs, .inl (.inl e7), ?_⟩
    exact al_map (f := fun n => (n, lblOf x y n)) (S := fun v n => PrAt K H7 v (n, lblOf x y n)) (R := PrAt K H7) (fun v z h => h) (hal.mono fun _ _ h => h.same (Kp.of s7))
theorem mx_cons (F : List (Tri Str)) (n : Str) (p : Option Str) (f : Nat) : mxF (F ++ [(n, p, f)]) p = if mxF F p < f then f else mxF F p := by
  unfold mxF ofP
  rw [List.filter_append, List.map_append]
  simp only [List.filter_cons, decide_true, if_true, List.filter_nil, List.map_cons, List.map_nil]
  unfold bst
  rw [List.foldl_append]
  show (if (0 : Nat) < 1 ∧ _ < f then f else _) = _
  simp
theorem of_snoc (F : List (Tri Str)) (n : Str) (p : Option Str) (f : Nat) (p2 : Option Str) : ofP (F ++ [(n, p, f)]) p2 = ofP F p2 ++ (if p = p2 then [(n, f)] else []) := by
  unfold ofP
  rw [List.filter_append, List.map_append]
  congr 1
  by_cases e : p = p2
  · subst e; simp
  · simp [e]
theorem mx_other (F : List (Tri Str)) (n : Str) (p : Option Str) (f : Nat) (p2 : Option Str) (h : p2 ≠ p) : mxF (F ++ [(n, p, f)]) p2 = mxF F p2 := by
  unfold mxF
  rw [of_snoc, if_neg fun z => h z.symm, List.append_nil]
abbrev N_resting : List Str := ["one", "other", "there", "found", "stay", "wanted", "name", "parent", "length", "rest", "behind"]
theorem sc_resting : FnScope N_resting ["one", "other"] (defScope (top 36)) := ⟨rfl, rfl, rfl, by decide +kernel, rfl, by decide +kernel, by decide +kernel⟩
theorem cal_resting (T : Tp K mg) (F : Fnn K mg "resting" 36)  (c_places : Cal P w K mg base 4 "places" (spPlaces K)) (c_lengths : Cal P w K mg base 5 "lengths" (spLens K)) (c_staying : Cal P w K mg base 4 "staying" (spStaying K)) : Cal P w K mg base 6 "resting" (spResting K) := by
  have nd := sc_resting.nd
  refine cal F (fun _ _ _ _ _ _ us hl => match us, hl with | [_, _], _ => rfl) sc_resting (fun vs H Q E h => by obtain ⟨a, b0, x, y, rfl, hx, hy, ox, oy, hp, q⟩ := h; rfl) (fun f cdv A outer s H vs Q E hr h => ?_)
  have hu := hu_of hr
  refine ⟨_, (pss_cons (ps_set (i := 2) nd rfl (.inl rfl) (pe_cc c_places hr (by decide) (by rfl) (pa_cons (pv 1) pa_nil)))
      (pss_cons (ps_set (i := 3) nd rfl (.inl rfl) (pe_cc c_lengths hr (by decide) (by rfl) (pa_cons (pv 0) (pa_cons (pv 1) pa_nil))))
      (pss_cons (ps_set (i := 4) nd rfl (.inl rfl) (pe_cc c_staying hr (by decide) (by rfl) (pa_cons (pv 0) (pa_cons (pv 1) pa_nil))))
      (pss_cons (ps_set (i := 5) nd rfl (.inl rfl) pe_ldnew)
      (pss_cons (ps_for PassesOwn.never rfl (pi_list (pv 4)) (pg_tup rfl (pgs_cons (pg_name (i := 6) nd rfl (.inl rfl)) (pgs_cons (pg_name (i := 7) nd rfl (.inl rfl)) pgs_nil))) (pss_cons (ps_set (i := 8) nd rfl (.inl rfl) (pe_ix ix_tup (pe_lddflt (pv 5) (pv 7) (pe_tup (pa_cons pe_int (pa_cons pe_int pa_nil))) ⟨rfl, rfl, rfl, rfl⟩) pe_int (fun _ _ => rfl)))
      (pss_one (ps_ldput (pv 5) (pv 7) (pe_tup (pa_cons (pe_ifExp (pt_cmpR op_gt (pe_dget hu (pv 3) (pv 6) (fun _ _ => rfl)) (pv 8) (nomark _)) (pe_dget hu (pv 3) (pv 6) (fun _ _ => rfl)) (pv 8)) (pa_cons (pe_callB call_lenD (by rfl) T.b_len (by decide +kernel) (pa_cons (pv 2) pa_nil)) pa_nil))) rfl))))
      (pss_cons (ps_set (i := 9) nd rfl (.inl rfl) (pe_lst pa_nil))
      (pss_cons (ps_for PassesOwn.never rfl (pi_list (pe_revL (pv 4))) (pg_tup rfl (pgs_cons (pg_name (i := 6) nd rfl (.inl rfl)) (pgs_cons (pg_name (i := 7) nd rfl (.inl rfl)) pgs_nil))) (pss_cons (ps_asg (pe_ldget (pv 5) (pv 7) (fun _ _ => rfl)) (pg_tup rfl (pgs_cons (pg_name (i := 8) nd rfl (.inl rfl)) (pgs_cons (pg_name (i := 10) nd rfl (.inl rfl)) pgs_nil))))
      (pss_one (ps_if (PW.pt (pw_and (pt_cmpR op_eq (pe_dget hu (pv 3) (pv 6) (fun _ _ => rfl)) (pv 8) (nomark _)) (pw_and1 (pt_cmpR op_lt (pe_dget hu (pv 2) (pv 6) (fun _ _ => rfl)) (pv 10) (nomark _))))) (pss_cons (ps_expr (pe_bm PySem.F.plainAttrs_list PySem.F.slot_list_append PySem.F.type_list_append mt_append (pv 9) (pa_cons (pv 6) pa_nil)))
      (pss_one (ps_ldput (pv 5) (pv 7) (pe_tup (pa_cons (pe_op op_sub (pv 8) pe_int) (pa_cons (pe_dget hu (pv 2) (pv 6) (fun _ _ => rfl)) pa_nil))) rfl))) pss_nil))))
      (pss_one (ps_ret (pv 9)))))))))), ?_⟩
  obtain ⟨a, b0, x, y, rfl, hx, hy, ox, oy, hp, q⟩ := h
  refine ⟨_, rfl, b0, y, rfl, hy, oy, fun pt H1 npt s1 hpt => ?_⟩
  refine ⟨_, rfl, _, rfl, a, b0, x, y, rfl, hx.same (Kp.of s1), hy.same (Kp.of s1), ox, oy, hp, fun pf H2 npf s2 hpf => ?_⟩
  refine ⟨_, rfl, _, rfl, a, b0, x, y, rfl, hx.same (Kp.of (s1.trans s2)), hy.same (Kp.of (s1.trans s2)), ox, oy, hp, fun pl Hs ys npl s3 hpl hal => ?_⟩
  intro pw npw
  generalize hE_Hb : upd Hs pw _ = Hb
  have e4 := (congrFun hE_Hb pw).symm.trans upd_same
  have n4 : ∀ q_, q_ ≠ pw → Hb q_ = Hs q_ := by subst hE_Hb; exact fun q_ h => upd_ne h
  have s4 : Same Hs Hb := by subst hE_Hb; exact same_new npw
  clear hE_Hb
  obtain ⟨tvs, htv, htl, htp⟩ := hpt
  obtain ⟨fvs, hf, hfk, hfv⟩ := hpf
  have htv := s3 _ _ (s2 _ _ htv)
  have hf := s3 _ _ hf
  have hll := hal.len
  have hlen := stay_le (y := y) ox
  have hFl : (lensF x y).length = (stayL x y).length := by rw [← F_map, List.length_map]
  have hget : ∀ {i : Nat} {z : Str × Option Str}, (stayL x y)[i]? = some z → ∃ f, (lensF x y)[i]? = some (z.1, z.2, f) := fun {i z} h => by
    rw [← F_map, List.getElem?_map] at h
    cases e : (lensF x y)[i]? with
    | none => rw [e] at h; cases h
    | some u => rw [e] at h; cases h; exact ⟨u.2.2, rfl⟩
  have hny : ∀ {n : Str} {p : Option Str}, (n, p) ∈ stayL x y → n ∈ Wd.nms y := fun h => par_nm (stay_mem.mp h).2
  refine ⟨_, rfl, pl, rfl, ⟨_, .inl (.inl (s4 _ _ hpl))⟩, ?_⟩
  refine for_it (walk_list (K := K) (a := pl) (xs := ys)) (fun i σ' H' => ∃ (u6 u7 u8 u9 u10 : Option V) (wvs : List (Option Str × V)), σ' = [some (.ref a), some (.ref b0), some (.ref pt), some (.ref pf), some (.ref pl), some (.ref pw), u6, u7, u8, u9, u10] ∧
    Same Hs H' ∧ H' pw = some (LD P w pw wvs) ∧ wvs.length ≤ i ∧ ∀ p, (valV wvs p = none ∧ ofP ((lensF x y).take i) p = []) ∨ ∃ t, valV wvs p = some (.ref t) ∧ SqT K H' t [.int (mxF ((lensF x y).take i) p : Nat), .int (tvs.length : Nat)])
    ⟨_, _, _, _, _, [], rfl, s4, e4, Nat.le_refl _, fun p => .inl ⟨rfl, rfl⟩⟩ ?_ ?_ ?_
  · rintro i σ' H' hi ⟨u6, u7, u8, u9, u10, wvs, rfl, sm, _⟩
    exact .inl (.inl (sm _ _ hpl))
  · rintro i v σ' H2 H3 hi ⟨u6, u7, u8, u9, u10, wvs, rfl, sm, hw, hwl, hwv⟩ ⟨rfl, hv⟩
    obtain ⟨⟨n, p⟩, hz, hst⟩ := hal.get hv
    obtain ⟨t, rfl, ht⟩ := StAt.same (Kp.of sm) hst
    obtain ⟨f, hfz⟩ := hget hz
    have hnf : (n, p, f) ∈ lensF x y := List.mem_of_getElem? hfz
    have htk : (lensF x y).take (i + 1) = (lensF x y).take i ++ [(n, p, f)] := by rw [List.take_add_one, hfz]; rfl
    have hmx := mx_cons ((lensF x y).take i) n p f
    rw [← htk] at hmx
    have hmo := fun p2 => mx_other ((lensF x y).take i) n p f p2
    rw [← htk] at hmo
    have hof := of_snoc ((lensF x y).take i) n p f
    rw [← htk] at hof
    refine ⟨t, _, rfl, ht, rfl, _, _, rfl, _, _, rfl, rfl, ?_⟩
    refine ⟨_, rfl, ⟨_, _, rfl, hw⟩, _, rfl, by show 2 ≤ sizeLine; decide, fun t0 ht0 => ?_⟩
    generalize hE_H6 : upd H3 t0 _ = H6
    have e6 := (congrFun hE_H6 t0).symm.trans upd_same
    have n6 : ∀ q_, q_ ≠ t0 → H6 q_ = H3 q_ := by subst hE_H6; exact fun q_ h => upd_ne h
    have s6 : Same H3 H6 := by subst hE_H6; exact same_new ht0
    clear hE_H6
    have s6h := sm.trans s6
    obtain ⟨t1, l1, g1, g2⟩ : ∃ t1 l1, (valV wvs p).getD (.ref t0) = .ref t1 ∧ SqT K H6 t1 [.int (mxF ((lensF x y).take i) p : Nat), l1] := by
      rcases hwv p with ⟨h1, h2⟩ | ⟨t1, h1, h2⟩
      · refine ⟨t0, .int 0, by rw [h1]; rfl, ?_⟩
        have : mxF ((lensF x y).take i) p = 0 := by unfold mxF; rw [h2]; rfl
        rw [this]
        exact .inl (.inl e6)
      · exact ⟨t1, _, by rw [h1]; rfl, sameT s6 h2⟩
    refine ⟨pw, wvs, p, rfl, rfl, s6 _ _ hw, ?_⟩
    rw [g1]
    have gf := DGet.k (k := kS n) (s6h _ _ hf)
    rw [hfv _ _ _ hnf] at gf
    refine ⟨t1, _, _, _, rfl, rfl, g2, atI_nat (j := 0) rfl, _, rfl, _, rfl, _, _, rfl, gf, _, rfl, _, _, rfl, rfl, _, rfl, ?_⟩
    by_cases c : mxF ((lensF x y).take i) p < f
    · refine ifE true (decide_eq_true (by omega)) ⟨_, rfl, _, rfl, _, _, rfl, gf, ?_⟩
      rw [if_pos c] at hmx
      refine ⟨_, rfl, pt, tvs, rfl, s6h _ _ htv, by show 2 ≤ sizeLine; decide, fun tn htn => ?_⟩
      generalize hE_H7 : upd H6 tn _ = H7
      have e7 := (congrFun hE_H7 tn).symm.trans upd_same
      have n7 : ∀ q_, q_ ≠ tn → H7 q_ = H6 q_ := by subst hE_H7; exact fun q_ h => upd_ne h
      have s7 : Same H6 H7 := by subst hE_H7; exact same_new htn
      clear hE_H7
      refine ⟨_, rfl, _, rfl, pw, wvs, p, rfl, rfl, s7 _ _ (s6 _ _ hw), by rw [line]; omega, ?_⟩
      have hw7 := s7 _ _ (s6 _ _ hw)
      generalize hE_H8 : upd H7 pw _ = H8
      have e8 := (congrFun hE_H8 pw).symm.trans upd_same
      have n8 : ∀ q_, q_ ≠ pw → H8 q_ = H7 q_ := by subst hE_H8; exact fun q_ h => upd_ne h
      have k8 : Kp H7 H8 := by subst hE_H8; exact Kp.mut hw7 (fun z => z)
      have m8 : ∀ H0, Same H0 H7 → H0 pw = none → Same H0 H8 := by subst hE_H8; exact fun _ s h => same_mut s h
      clear hE_H8
      refine ⟨_, _, _, _, _, putK wvs p (.ref tn), rfl, m8 Hs ((sm.trans s6).trans s7) npw, e8, ?_, fun p2 => ?_⟩
      · have := putlen wvs p (V.ref tn); omega
      · rw [valV_put]
        by_cases e : p2 = p
        · subst e
          refine .inr ⟨tn, by rw [if_pos rfl], k8.T (.inl (.inl ?_))⟩
          rw [e7, hmx]
        · rw [if_neg e]
          rcases hwv p2 with ⟨h1, h2⟩ | ⟨t2, h1, h2⟩
          · refine .inl ⟨h1, ?_⟩
            rw [hof p2, if_neg fun z => e z.symm, h2]
            rfl
          · refine .inr ⟨t2, h1, ?_⟩
            rw [hmo p2 e]
            exact (((Kp.of s6).trans (Kp.of s7)).trans k8).T h2
    · refine ifE false (decide_eq_false (by omega)) ⟨_, rfl, ?_⟩
      rw [if_neg c] at hmx
      refine ⟨_, rfl, pt, tvs, rfl, s6h _ _ htv, by show 2 ≤ sizeLine; decide, fun tn htn => ?_⟩
      generalize hE_H7 : upd H6 tn _ = H7
      have e7 := (congrFun hE_H7 tn).symm.trans upd_same
      have n7 : ∀ q_, q_ ≠ tn → H7 q_ = H6 q_ := by subst hE_H7; exact fun q_ h => upd_ne h
      have s7 : Same H6 H7 := by subst hE_H7; exact same_new htn
      clear hE_H7
      refine ⟨_, rfl, _, rfl, pw, wvs, p, rfl, rfl, s7 _ _ (s6 _ _ hw), by rw [line]; omega, ?_⟩
      have hw7 := s7 _ _ (s6 _ _ hw)
      generalize hE_H8 : upd H7 pw _ = H8
      have e8 := (congrFun hE_H8 pw).symm.trans upd_same
      have n8 : ∀ q_, q_ ≠ pw → H8 q_ = H7 q_ := by subst hE_H8; exact fun q_ h => upd_ne h
      have k8 : Kp H7 H8 := by subst hE_H8; exact Kp.mut hw7 (fun z => z)
      have m8 : ∀ H0, Same H0 H7 → H0 pw = none → Same H0 H8 := by subst hE_H8; exact fun _ s h => same_mut s h
      clear hE_H8
      refine ⟨_, _, _, _, _, putK wvs p (.ref tn), rfl, m8 Hs ((sm.trans s6).trans s7) npw, e8, ?_, fun p2 => ?_⟩
      · have := putlen wvs p (V.ref tn); omega
      · rw [valV_put]
        by_cases e : p2 = p
        · subst e
          refine .inr ⟨tn, by rw [if_pos rfl], k8.T (.inl (.inl ?_))⟩
          rw [e7, hmx]
        · rw [if_neg e]
          rcases hwv p2 with ⟨h1, h2⟩ | ⟨t2, h1, h2⟩
          · refine .inl ⟨h1, ?_⟩
            rw [hof p2, if_neg fun z => e z.symm, h2]
            rfl
          · refine .inr ⟨t2, h1, ?_⟩
            rw [hmo p2 e]
            exact (((Kp.of s6).trans (Kp.of s7)).trans k8).T h2
  · rintro σ' H5 ⟨u6, u7, u8, u9, u10, wvs, rfl, sm, hw, hwl, hwv⟩
    rw [hll, ← hFl, List.take_length] at hwv
    refine ⟨by decide, fun pr hpr => ?_⟩
    generalize hE_H6 : upd H5 pr _ = H6
    have e6 := (congrFun hE_H6 pr).symm.trans upd_same
    have n6 : ∀ q_, q_ ≠ pr → H6 q_ = H5 q_ := by subst hE_H6; exact fun q_ h => upd_ne h
    have s6 : Same H5 H6 := by subst hE_H6; exact same_new hpr
    clear hE_H6
    refine ⟨_, rfl, pl, ys, rfl, .inl (.inl (s6 _ _ (sm _ _ hpl))), fun pv hpv => ?_⟩
    generalize hE_H7 : upd H6 pv _ = H7
    have e7 := (congrFun hE_H7 pv).symm.trans upd_same
    have n7 : ∀ q_, q_ ≠ pv → H7 q_ = H6 q_ := by subst hE_H7; exact fun q_ h => upd_ne h
    have s7 : Same H6 H7 := by subst hE_H7; exact same_new hpv
    clear hE_H7
    refine ⟨pv, rfl, ⟨_, .inl (.inl e7)⟩, ?_⟩
    have s57 := s6.trans s7
    have hprs : Hs pr = none := sm.free hpr
    have npr : pr ≠ pw := fun z => by subst z; rw [hw] at hpr; cases hpr
    have npv : pv ≠ pr := fun z => by subst z; rw [e6] at hpv; cases hpv
    have npvw : pv ≠ pw := fun z => by subst z; rw [s6 _ _ hw] at hpv; cases hpv
    have hrl := al_rev hal
    have hal0 : Al (fun v z => StAt K Hs v z) ys.reverse (stayL x y).reverse := hrl
    have hrlen : ys.reverse.length = (stayL x y).length := by rw [List.length_reverse]; exact hll
    have hget2 : ∀ {i : Nat} {z : Str × Option Str}, (stayL x y).reverse[i]? = some z → ∃ f, (lensF x y).reverse[i]? = some (z.1, z.2, f) := fun {i z} h => by
      rw [← F_map, ← List.map_reverse, List.getElem?_map] at h
      cases e : (lensF x y).reverse[i]? with
      | none => rw [e] at h; cases h
      | some u => rw [e] at h; cases h; exact ⟨u.2.2, rfl⟩
    refine for_it (walk_list (K := K) (a := pv) (xs := ys.reverse)) (fun i σ' H' => ∃ (u6 u7 u8 u10 : Option V) (wvs : List (Option Str × V)) (W : Wn Str) (acc : List Str), σ' = [some (.ref a), some (.ref b0), some (.ref pt), some (.ref pf), some (.ref pl), some (.ref pw), u6, u7, u8, some (.ref pr), u10] ∧
      Same Hs H' ∧ H' pv = some (.lst ys.reverse) ∧ H' pr = some (.lst (acc.map V.str)) ∧ H' pw = some (LD P w pw wvs) ∧ wvs.length ≤ 300 + i ∧ acc.length ≤ i ∧
      (∀ n p f, (n, p, f) ∈ lensF x y → ∃ t, valV wvs p = some (.ref t) ∧ SqT K H' t [.int ((W p).1 : Nat), .int ((W p).2 : Nat)]) ∧ acc ++ (rst (posn y) W ((lensF x y).reverse.drop i)).map (·.1) = restN x y)
      ⟨_, _, _, _, wvs, W0 x y, [], rfl, sm.trans s57, e7, s7 _ _ e6, s57 _ _ hw, by omega, Nat.le_refl _, ?_, rfl⟩ ?_ ?_ ?_
    · intro n p f h
      rcases hwv p with ⟨_, h2⟩ | ⟨t, h1, h2⟩
      · have := mem_ofP.mpr h
        rw [h2] at this; cases this
      · refine ⟨t, h1, ?_⟩
        have z := sameT s57 h2
        rw [htl] at z
        exact z
    · rintro i σ' H' hi ⟨u6, u7, u8, u10, wvs, W, acc, rfl, sm, hpv2, _⟩
      exact .inl (.inl hpv2)
    · rintro i v σ' H2 H3 hi ⟨u6, u7, u8, u10, wvs, W, acc, rfl, sm, hpv2, hpr2, hw2, hwl2, hacc, hW, hR⟩ ⟨rfl, hv⟩
      obtain ⟨⟨n, p⟩, hz, hst⟩ := hal0.get hv
      obtain ⟨t, rfl, ht⟩ := StAt.same (Kp.of sm) hst
      obtain ⟨f, hfz⟩ := hget2 hz
      have hnf : (n, p, f) ∈ lensF x y := List.mem_reverse.mp (List.mem_of_getElem? hfz)
      have hi2 : i < (lensF x y).reverse.length := (List.getElem?_eq_some_iff.mp hfz).1
      have hdrop : (lensF x y).reverse.drop i = (n, p, f) :: (lensF x y).reverse.drop (i + 1) := by
        rw [List.drop_eq_getElem_cons hi2, (List.getElem?_eq_some_iff.mp hfz).2]
      rw [hdrop] at hR
      obtain ⟨tw, w1, w2⟩ := hW n p f hnf
      have gf := DGet.k (k := kS n) (sm _ _ hf)
      rw [hfv _ _ _ hnf] at gf
      have gt := DGet.k (k := kS n) (sm _ _ htv)
      rw [htp n (hny (List.mem_reverse.mp (List.mem_of_getElem? hz)))] at gt
      have hf1 := good_pos good_F hnf
      rw [hrlen, ← hFl] at hi
      rw [List.length_reverse] at hi2
      refine ⟨t, _, rfl, ht, rfl, _, _, rfl, _, _, rfl, rfl, ?_⟩
      refine ⟨_, rfl, _, rfl, pw, wvs, p, _, rfl, rfl, hw2, w1, tw, _, rfl, w2, rfl, _, _, rfl, _, _, rfl, rfl, ?_⟩
      refine ⟨_, rfl, _, rfl, _, _, rfl, gf, _, rfl, rfl, _, rfl, ?_⟩
      by_cases c1 : f = (W p).1
      · refine ifE true (decide_eq_true (by rw [c1])) ⟨_, rfl, _, rfl, _, _, rfl, gt, _, rfl, _, _, rfl, rfl, _, rfl, ?_⟩
        by_cases c2 : posn y n < (W p).2
        · refine ifE true (decide_eq_true (by omega)) ⟨_, rfl, .inl ⟨rfl, _, .inl (.inl hpr2)⟩, _, rfl, pr, _, _, rfl, rfl, hpr2, by rw [line, List.length_map]; omega, ?_⟩
          generalize hE_H8 : upd H3 pr _ = H8
          have e8 := (congrFun hE_H8 pr).symm.trans upd_same
          have n8 : ∀ q_, q_ ≠ pr → H8 q_ = H3 q_ := by subst hE_H8; exact fun q_ h => upd_ne h
          have k8 : Kp H3 H8 := by subst hE_H8; exact Kp.mut hpr2 (fun z => z)
          have m8 : ∀ H0, Same H0 H3 → H0 pr = none → Same H0 H8 := by subst hE_H8; exact fun _ s h => same_mut s h
          clear hE_H8
          have hw8 := (n8 pw (Ne.symm npr)).trans hw2
          have sm8 := m8 Hs sm hprs
          have gt8 := DGet.k (k := kS n) (sm8 _ _ htv)
          rw [htp n (hny (List.mem_reverse.mp (List.mem_of_getElem? hz)))] at gt8
          refine ⟨_, rfl, _, _, rfl, rfl, _, rfl, _, rfl, _, _, rfl, gt8, by show 2 ≤ sizeLine; decide, fun tn htn => ?_⟩
          generalize hE_H9 : upd H8 tn _ = H9
          have e9 := (congrFun hE_H9 tn).symm.trans upd_same
          have n9 : ∀ q_, q_ ≠ tn → H9 q_ = H8 q_ := by subst hE_H9; exact fun q_ h => upd_ne h
          have s9 : Same H8 H9 := by subst hE_H9; exact same_new htn
          clear hE_H9
          have hw9 := s9 _ _ hw8
          refine ⟨_, rfl, _, rfl, pw, wvs, p, rfl, rfl, hw9, by rw [line]; omega, ?_⟩
          generalize hE_H10 : upd H9 pw _ = H10
          have e10 := (congrFun hE_H10 pw).symm.trans upd_same
          have n10 : ∀ q_, q_ ≠ pw → H10 q_ = H9 q_ := by subst hE_H10; exact fun q_ h => upd_ne h
          have k10 : Kp H9 H10 := by subst hE_H10; exact Kp.mut hw9 (fun z => z)
          have m10 : ∀ H0, Same H0 H9 → H0 pw = none → Same H0 H10 := by subst hE_H10; exact fun _ s h => same_mut s h
          clear hE_H10
          rw [rst, if_pos ⟨c1, c2⟩] at hR
          refine ⟨_, _, _, _, putK wvs p (.ref tn), wput W p ((W p).1 - 1, posn y n), acc ++ [n], rfl, m10 Hs (sm8.trans s9) npw, ?_, ?_, e10, ?_, ?_, ?_, ?_⟩
          · exact (n10 pv npvw).trans (s9 _ _ ((n8 pv npv).trans hpv2))
          · rw [List.map_append]
            exact (n10 pr npr).trans (s9 _ _ e8)
          · have := putlen wvs p (V.ref tn); omega
          · rw [List.length_append]; exact Nat.succ_le_succ hacc
          · intro n2 p2 f2 h2
            rw [valV_put]
            by_cases e : p2 = p
            · subst e
              refine ⟨tn, by rw [if_pos rfl], k10.T (.inl (.inl ?_))⟩
              rw [e9]
              unfold wput
              rw [if_pos rfl]
              have e2 : (((W p2).1 : Nat) : Int) - 1 = (((W p2).1 - 1 : Nat) : Int) := by omega
              show some (HO.tup [V.int ((((W p2).1 : Nat) : Int) - 1), _]) = _
              rw [e2]
            · rw [if_neg e]
              obtain ⟨t2, h3, h4⟩ := hW n2 p2 f2 h2
              refine ⟨t2, h3, ?_⟩
              unfold wput
              rw [if_neg e]
              exact ((k8.trans (Kp.of s9)).trans k10).T h4
          · rw [← hR, List.append_assoc]
            rfl
        · refine ifE false (decide_eq_false (by omega)) ?_
          rw [rst, if_neg fun z => c2 z.2] at hR
          exact ⟨_, _, _, _, wvs, W, acc, rfl, sm, hpv2, hpr2, hw2, by omega, by omega, hW, hR⟩
      · refine ifE false (decide_eq_false fun z => c1 (by have := V.int.inj z; omega)) (ifE false rfl ?_)
        rw [rst, if_neg fun z => c1 z.1] at hR
        exact ⟨_, _, _, _, wvs, W, acc, rfl, sm, hpv2, hpr2, hw2, by omega, by omega, hW, hR⟩
    · rintro σ' H2 ⟨u6, u7, u8, u10, wvs, W, acc, rfl, sm, hpv2, hpr2, hw2, hwl2, hacc, hW, hR⟩
      rw [hrlen, ← hFl, List.drop_eq_nil_of_le (by rw [List.length_reverse]; exact Nat.le_refl _)] at hR
      have hR2 : acc = restN x y := by rw [← hR]; exact (List.append_nil _).symm
      subst hR2
      have s1s := (s1.trans s2).trans s3
      exact ⟨_, rfl, q pr H2 (s1s.free hprs) (s1s.trans sm) hpr2⟩
abbrev N_least_moves : List Str := ["one", "other"]
theorem sc_least_moves : FnScope N_least_moves ["one", "other"] (defScope (top 37)) := ⟨rfl, rfl, rfl, by decide +kernel, rfl, by decide +kernel, by decide +kernel⟩
theorem cal_least_moves (T : Tp K mg) (F : Fnn K mg "least_moves" 37)  (c_require_alike : Cal P w K mg base 4 "require_alike" (spAlike K)) (c_names_of : Cal P w K mg base 3 "names_of" (spNames K)) (c_resting : Cal P w K mg base 6 "resting" (spResting K)) : Cal P w K mg base 7 "least_moves" (spLeast K) := by
  have nd := sc_least_moves.nd
  refine cal F (fun _ _ _ _ _ _ us hl => match us, hl with | [_, _], _ => rfl) sc_least_moves (fun vs H Q E h => by obtain ⟨a, b0, x, y, rfl, hx, hy, ox, oy, hp, q⟩ := h; rfl) (fun f cdv A outer s H vs Q E hr h => ?_)
  have hu := hu_of hr
  refine ⟨_, (pss_cons (ps_expr (pe_cc c_require_alike hr (by decide) (by rfl) (pa_cons (pv 0) (pa_cons (pv 1) pa_nil))))
      (pss_one (ps_ret (pe_op op_sub (pe_callB call_len (by rfl) T.b_len (by decide +kernel) (pa_cons (pe_cc c_names_of hr (by decide) (by rfl) (pa_cons (pv 0) pa_nil)) pa_nil)) (pe_callB call_len (by rfl) T.b_len (by decide +kernel) (pa_cons (pe_cc c_resting hr (by decide) (by rfl) (pa_cons (pv 0) (pa_cons (pv 1) pa_nil))) pa_nil)))))), ?_⟩
  obtain ⟨a, b0, x, y, rfl, hx, hy, ox, oy, hp, q⟩ := h
  refine ⟨_, rfl, _, rfl, a, b0, x, y, rfl, hx, hy, ox, oy, hp, fun H1 s1 => ?_⟩
  refine ⟨_, rfl, a, x, rfl, hx.same (Kp.of s1), ox.short, ox.few, fun p2 H2 s2 h2 => ⟨_, _, rfl, .inr ⟨_, h2, rfl⟩, ?_⟩⟩
  have s12 := s1.trans s2
  refine ⟨_, rfl, _, rfl, a, b0, x, y, rfl, hx.same (Kp.of s12), hy.same (Kp.of s12), ox, oy, hp, fun p3 H3 n3 s3 h3 => ⟨_, _, rfl, .inl ⟨_, .inl (.inl h3), rfl⟩, _, _, rfl, rfl, ?_⟩⟩
  rw [List.length_map, List.length_map]
  exact q H3 (s12.trans s3)
end
end K76
/-! text W9 -/
set_option Elab.async false
set_option linter.all false
set_option maxRecDepth 100000
set_option maxHeartbeats 4000000
namespace K76
open PySem PySem.Spec PyProof.Rows L2
theorem in_strs_neg (z : Str) (ss : List Str) : (!inV (.str z) (ss.map V.str)) = !decide (z ∈ ss) := by rw [in_strs]
section
variable {P : Program} {w : World} {K : PySem.W.Frag} {mg : Str → Option Value} {base : Heap}
abbrev N_fewest : List Str := ["one", "other", "rest", "parents", "last", "found", "name", "parent"]
theorem sc_fewest : FnScope N_fewest ["one", "other"] (defScope (top 38)) := ⟨rfl, rfl, rfl, by decide +kernel, rfl, by decide +kernel, by decide +kernel⟩
theorem cal_fewest (T : Tp K mg) (F : Fnn K mg "fewest" 38)  (c_require_alike : Cal P w K mg base 4 "require_alike" (spAlike K)) (c_resting : Cal P w K mg base 6 "resting" (spResting K)) (c_all_parents : Cal P w K mg base 1 "all_parents" (spPar K)) (c_names_of : Cal P w K mg base 3 "names_of" (spNames K)) : Cal P w K mg base 7 "fewest" (spFewest K) := by
  have nd := sc_fewest.nd
  refine cal F (fun _ _ _ _ _ _ us hl => match us, hl with | [_, _], _ => rfl) sc_fewest (fun vs H Q E h => by obtain ⟨a, b0, x, y, rfl, hx, hy, ox, oy, hp, q⟩ := h; rfl) (fun f cdv A outer s H vs Q E hr h => ?_)
  have hu := hu_of hr
  refine ⟨_, (pss_cons (ps_expr (pe_cc c_require_alike hr (by decide) (by rfl) (pa_cons (pv 0) (pa_cons (pv 1) pa_nil))))
      (pss_cons (ps_set (i := 2) nd rfl (.inl rfl) (pe_cc c_resting hr (by decide) (by rfl) (pa_cons (pv 0) (pa_cons (pv 1) pa_nil))))
      (pss_cons (ps_set (i := 3) nd rfl (.inl rfl) (pe_cc c_all_parents hr (by decide) (by rfl) (pa_cons (pv 1) pa_nil)))
      (pss_cons (ps_set (i := 4) nd rfl (.inl rfl) pe_ldnew)
      (pss_cons (ps_set (i := 5) nd rfl (.inl rfl) (pe_lst pa_nil))
      (pss_cons (ps_for PassesOwn.never rfl (pi_tup (pe_cc c_names_of hr (by decide) (by rfl) (pa_cons (pv 1) pa_nil))) (pg_name (i := 6) nd rfl (.inl rfl)) (pss_cons (ps_set (i := 7) nd rfl (.inl rfl) (pe_dget hu (pv 3) (pv 6) (fun _ _ => rfl)))
      (C8.pss_cut (ps_if (pt_cmpR op_notIn_seq (pv 6) (pv 2) rfl) (pss_one (ps_if (pt_cmp (pc_ldin (pv 7) (pv 4))) (pss_one (ps_expr (pe_bm PySem.F.plainAttrs_list PySem.F.slot_list_append PySem.F.type_list_append mt_append (pv 5) (pa_cons (pe_tup (pa_cons pe_str (pa_cons (pv 6) (pa_cons (pe_ldget (pv 4) (pv 7) (fun _ _ => rfl)) pa_nil)))) pa_nil)))) (pss_one (ps_if (pt_cmpR op_isN (pv 7) pe_non (nomark _)) (pss_one (ps_expr (pe_bm PySem.F.plainAttrs_list PySem.F.slot_list_append PySem.F.type_list_append mt_append (pv 5) (pa_cons (pe_tup (pa_cons pe_str (pa_cons (pv 6) pa_nil))) pa_nil)))) (pss_one (ps_expr (pe_bm PySem.F.plainAttrs_list PySem.F.slot_list_append PySem.F.type_list_append mt_append (pv 5) (pa_cons (pe_tup (pa_cons pe_str (pa_cons (pv 6) (pa_cons (pv 7) pa_nil)))) pa_nil)))))))) pss_nil)
      (pss_one (ps_ldput (pv 4) (pv 7) (pv 6) rfl)))))
      (pss_one (ps_ret (pe_callTy call_tuple_of (by rfl) T.b_tuple (by decide +kernel) (pa_cons (pv 5) pa_nil)))))))))), ?_⟩
  obtain ⟨a, b0, x, y, rfl, hx, hy, ox, oy, hp, q⟩ := h
  refine ⟨_, rfl, _, rfl, a, b0, x, y, rfl, hx, hy, ox, oy, hp, fun H1 s1 => ?_⟩
  refine ⟨_, rfl, _, rfl, a, b0, x, y, rfl, hx.same (Kp.of s1), hy.same (Kp.of s1), ox, oy, hp, fun pr H2 npr s2 hpr => ?_⟩
  have s12 := s1.trans s2
  refine ⟨_, rfl, b0, y, rfl, hy.same (Kp.of s12), oy, fun pp Hs npp s3 hpp => ?_⟩
  obtain ⟨pvs, hpv, hpf⟩ := hpp
  have s1s := s12.trans s3
  intro pl npl
  generalize hE_Ha : upd Hs pl _ = Ha
  have e4 := (congrFun hE_Ha pl).symm.trans upd_same
  have n4 : ∀ q_, q_ ≠ pl → Ha q_ = Hs q_ := by subst hE_Ha; exact fun q_ h => upd_ne h
  have s4 : Same Hs Ha := by subst hE_Ha; exact same_new npl
  clear hE_Ha
  refine ⟨by decide, fun pf npf => ?_⟩
  generalize hE_Hb : upd Ha pf _ = Hb
  have e5 := (congrFun hE_Hb pf).symm.trans upd_same
  have n5 : ∀ q_, q_ ≠ pf → Hb q_ = Ha q_ := by subst hE_Hb; exact fun q_ h => upd_ne h
  have s5 : Same Ha Hb := by subst hE_Hb; exact same_new npf
  clear hE_Hb
  have nlf : pl ≠ pf := ne_of_none e4 npf
  have npf2 : Hs pf = none := s4.free npf
  refine ⟨_, rfl, b0, y, rfl, hy.same (Kp.of ((s1s.trans s4).trans s5)), oy.short, oy.few, fun pn Hc s6 hn => ⟨pn, rfl, ⟨_, hn⟩, ?_⟩⟩
  have hpr' := s3 _ _ hpr
  have hlen := oy.len
  have hplen := prs_len y none
  refine for_it (walk_tup (K := K) (a := pn) (xs := (Wd.nms y).map V.str)) (fun i σ' H' => ∃ (u6 u7 : Option V) (lvs : List (Option Str × V)) (vs : List V) (acc : List (Mv Str)), σ' = [some (.ref a), some (.ref b0), some (.ref pr), some (.ref pp), some (.ref pl), some (.ref pf), u6, u7] ∧
    Same Hs H' ∧ SqT K H' pn ((Wd.nms y).map V.str) ∧ H' pl = some (LD P w pl lvs) ∧ H' pf = some (.lst vs) ∧ Al (MvAt K H') vs acc ∧ acc ++ few (fun n => decide (n ∈ restN x y)) ((Wd.prs none y).take i) ((Wd.prs none y).drop i) = fewL x y ∧
    (∀ p, valV lvs p = ((kidsL ((Wd.prs none y).take i) p).getLast?).map V.str) ∧ lvs.length ≤ i ∧ vs.length ≤ i)
    ⟨_, _, [], [], [], rfl, (s4.trans s5).trans s6, hn, s6 _ _ (s5 _ _ e4), s6 _ _ e5, trivial, rfl, fun p => rfl, Nat.le_refl _, Nat.le_refl _⟩ ?_ ?_ ?_
  · rintro i σ' H' hi ⟨u6, u7, lvs, vs, acc, rfl, sm, hn, _⟩
    exact hn
  · rintro i v σ' H3 H4 hi ⟨u6, u7, lvs, vs, acc, rfl, sm, hn, hl, hf, hal, hR, hlv, hll, hvl⟩ ⟨rfl, hv⟩
    have hi2 : i < (Wd.prs none y).length := by rw [List.length_map] at hi; omega
    cases hz : (Wd.prs none y)[i]? with
    | none => exact absurd (List.getElem?_eq_none_iff.mp hz) (by omega)
    | some z =>
    obtain ⟨n, p⟩ := z
    have hvn : v = .str n := by
      rw [← prs_nms y none, List.map_map, List.getElem?_map, hz] at hv
      exact (Option.some.inj hv).symm
    subst hvn
    have hdrop : (Wd.prs none y).drop i = (n, p) :: (Wd.prs none y).drop (i + 1) := by
      rw [List.drop_eq_getElem_cons hi2, (List.getElem?_eq_some_iff.mp hz).2]
    have htk : (Wd.prs none y).take (i + 1) = (Wd.prs none y).take i ++ [(n, p)] := by rw [List.take_add_one, hz]; rfl
    have gp := DGet.k (k := kS n) (sm _ _ hpv)
    rw [hpf n p (List.mem_of_getElem? hz)] at gp
    rw [hdrop, few, ← htk, ← List.append_assoc] at hR
    refine ⟨_, rfl, _, rfl, _, _, rfl, gp, ?_⟩
    refine ⟨fun σ' H' => ∃ (vs' : List V), σ' = [some (.ref a), some (.ref b0), some (.ref pr), some (.ref pp), some (.ref pl), some (.ref pf), some (.str n), some (pV p)] ∧
      Same Hs H' ∧ Kp H4 H' ∧ H' pl = some (LD P w pl lvs) ∧ H' pf = some (.lst vs') ∧ Al (MvAt K H') vs' (acc ++ (if decide (n ∈ restN x y) = true then [] else [mvFor n p (kidsL ((Wd.prs none y).take i) p).getLast?])) ∧ vs'.length ≤ i + 1, ?_, ?_⟩
    · refine ⟨_, rfl, _, rfl, pr, _, rfl, .inl (.inl (.inl (sm _ _ hpr'))), rfl, flat_all _, _, rfl, ?_⟩
      have put : ∀ (H5 : Hp) (d : Mv Str) (vt : V), Same H4 H5 → MvAt K H5 vt d → decide (n ∈ restN x y) = false → mvFor n p (kidsL ((Wd.prs none y).take i) p).getLast? = d → ∀ H6, H6 pf = some (.lst (vs ++ [vt])) → (∀ q_, q_ ≠ pf → H6 q_ = H5 q_) → ∃ (vs' : List V), [some (.ref a), some (.ref b0), some (.ref pr), some (.ref pp), some (.ref pl), some (.ref pf), some (V.str n), some (pV p)] = [some (.ref a), some (.ref b0), some (.ref pr), some (.ref pp), some (.ref pl), some (.ref pf), some (.str n), some (pV p)] ∧
          Same Hs H6 ∧ Kp H4 H6 ∧ H6 pl = some (LD P w pl lvs) ∧ H6 pf = some (.lst vs') ∧ Al (MvAt K H6) vs' (acc ++ (if decide (n ∈ restN x y) = true then [] else [mvFor n p (kidsL ((Wd.prs none y).take i) p).getLast?])) ∧ vs'.length ≤ i + 1 := by
        intro H5 d vt s5 hd hno hm H6 h6 o6
        have k6 : Kp H5 H6 := fun b o im e => (o6 b (fun z => by subst z; rw [s5 _ _ hf] at e; cases e; exact im)).trans e
        have k46 := (Kp.of s5).trans k6
        refine ⟨_, rfl, fun b o e => (o6 b (fun z => by subst z; rw [npf2] at e; cases e)).trans (s5 _ _ (sm _ _ e)), k46, (o6 pl nlf).trans (s5 _ _ hl), h6, ?_, by rw [List.length_append]; exact Nat.succ_le_succ hvl⟩
        rw [hno, hm]
        obtain ⟨t, e, ht⟩ := hd
        exact (hal.mono fun _ _ ⟨t, e, h⟩ => ⟨t, e, k46.T h⟩).app ⟨⟨t, e, k6.T ht⟩, trivial⟩
      show if (!inV (V.str n) (List.map V.str (restN x y))) = true then _ else _
      rw [in_strs]
      refine ifB (fun hno => ?_) (fun hyes => ?_)
      · have hno : decide (n ∈ restN x y) = false := by simpa using hno
        refine ⟨_, rfl, _, rfl, pl, lvs, p, rfl, rfl, hl, _, rfl, ?_⟩
        rw [hlv p]
        rcases Option.eq_none_or_eq_some (kidsL ((Wd.prs none y).take i) p).getLast? with hk | ⟨c, hk⟩
        rotate_left
        · refine ifE true (by rw [hk]; rfl) ⟨_, rfl, .inl ⟨rfl, _, .inl (.inl hf)⟩, _, rfl, _, rfl, _, rfl, pl, lvs, p, V.str c, rfl, rfl, hl, by rw [hlv p, hk]; rfl, by show 3 ≤ sizeLine; decide, fun t ht => ?_⟩
          generalize hE_H5 : upd H4 t _ = H5
          have e7 := (congrFun hE_H5 t).symm.trans upd_same
          have n7 : ∀ q_, q_ ≠ t → H5 q_ = H4 q_ := by subst hE_H5; exact fun q_ h => upd_ne h
          have s7 : Same H4 H5 := by subst hE_H5; exact same_new ht
          clear hE_H5
          refine ⟨pf, _, _, rfl, rfl, s7 _ _ hf, by rw [line]; omega, ?_⟩
          have hf5 := s7 _ _ hf
          generalize hE_H6 : upd H5 pf _ = H6
          have e8 := (congrFun hE_H6 pf).symm.trans upd_same
          have n8 : ∀ q_, q_ ≠ pf → H6 q_ = H5 q_ := by subst hE_H6; exact fun q_ h => upd_ne h
          have k8 : Kp H5 H6 := by subst hE_H6; exact Kp.mut hf5 (fun z => z)
          have m8 : ∀ H0, Same H0 H5 → H0 pf = none → Same H0 H6 := by subst hE_H6; exact fun _ s h => same_mut s h
          clear hE_H6
          exact put H5 ⟨.behind, n, c⟩ (.ref t) s7 ⟨t, rfl, .inl (.inl e7)⟩ hno (by rw [hk]; rfl) H6 e8 n8
        · refine ifE false (by rw [hk]; rfl) ⟨_, rfl, rfl, _, rfl, ?_⟩
          cases p with
          | none =>
            refine ⟨_, rfl, .inl ⟨rfl, _, .inl (.inl hf)⟩, _, rfl, by show 2 ≤ sizeLine; decide, fun t ht => ?_⟩
            generalize hE_H5 : upd H4 t _ = H5
            have e7 := (congrFun hE_H5 t).symm.trans upd_same
            have n7 : ∀ q_, q_ ≠ t → H5 q_ = H4 q_ := by subst hE_H5; exact fun q_ h => upd_ne h
            have s7 : Same H4 H5 := by subst hE_H5; exact same_new ht
            clear hE_H5
            refine ⟨pf, _, _, rfl, rfl, s7 _ _ hf, by rw [line]; omega, ?_⟩
            have hf5 := s7 _ _ hf
            generalize hE_H6 : upd H5 pf _ = H6
            have e8 := (congrFun hE_H6 pf).symm.trans upd_same
            have n8 : ∀ q_, q_ ≠ pf → H6 q_ = H5 q_ := by subst hE_H6; exact fun q_ h => upd_ne h
            have k8 : Kp H5 H6 := by subst hE_H6; exact Kp.mut hf5 (fun z => z)
            have m8 : ∀ H0, Same H0 H5 → H0 pf = none → Same H0 H6 := by subst hE_H6; exact fun _ s h => same_mut s h
            clear hE_H6
            exact put H5 ⟨.front, n, n⟩ (.ref t) s7 ⟨t, rfl, .inl (.inl e7)⟩ hno (by rw [hk]; rfl) H6 e8 n8
          | some p =>
            refine ⟨_, rfl, .inl ⟨rfl, _, .inl (.inl hf)⟩, _, rfl, _, rfl, by show 3 ≤ sizeLine; decide, fun t ht => ?_⟩
            generalize hE_H5 : upd H4 t _ = H5
            have e7 := (congrFun hE_H5 t).symm.trans upd_same
            have n7 : ∀ q_, q_ ≠ t → H5 q_ = H4 q_ := by subst hE_H5; exact fun q_ h => upd_ne h
            have s7 : Same H4 H5 := by subst hE_H5; exact same_new ht
            clear hE_H5
            refine ⟨pf, _, _, rfl, rfl, s7 _ _ hf, by rw [line]; omega, ?_⟩
            have hf5 := s7 _ _ hf
            generalize hE_H6 : upd H5 pf _ = H6
            have e8 := (congrFun hE_H6 pf).symm.trans upd_same
            have n8 : ∀ q_, q_ ≠ pf → H6 q_ = H5 q_ := by subst hE_H6; exact fun q_ h => upd_ne h
            have k8 : Kp H5 H6 := by subst hE_H6; exact Kp.mut hf5 (fun z => z)
            have m8 : ∀ H0, Same H0 H5 → H0 pf = none → Same H0 H6 := by subst hE_H6; exact fun _ s h => same_mut s h
            clear hE_H6
            exact put H5 ⟨.first, n, p⟩ (.ref t) s7 ⟨t, rfl, .inl (.inl e7)⟩ hno (by rw [hk]; rfl) H6 e8 n8
      · have hyes : decide (n ∈ restN x y) = true := by simpa using hyes
        refine ⟨vs, rfl, sm, Kp.refl _, hl, hf, ?_, by omega⟩
        rw [hyes, if_pos rfl, List.append_nil]
        exact hal
    · rintro σ' H5 ⟨vs', rfl, sm5, kp5, hl5, hf5, hal5, hvl5⟩
      refine ⟨_, rfl, _, rfl, _, rfl, pl, lvs, p, rfl, rfl, hl5, by rw [line]; omega, ?_⟩
      generalize hE_H6 : upd H5 pl _ = H6
      have e7 := (congrFun hE_H6 pl).symm.trans upd_same
      have n7 : ∀ q_, q_ ≠ pl → H6 q_ = H5 q_ := by subst hE_H6; exact fun q_ h => upd_ne h
      have k7 : Kp H5 H6 := by subst hE_H6; exact Kp.mut hl5 (fun z => z)
      have m7 : ∀ H0, Same H0 H5 → H0 pl = none → Same H0 H6 := by subst hE_H6; exact fun _ s h => same_mut s h
      clear hE_H6
      refine ⟨_, _, putK lvs p (.str n), vs', _, rfl, m7 Hs sm5 npl, (kp5.trans k7).T hn, e7, (n7 pf (Ne.symm nlf)).trans hf5, hal5.mono fun _ _ ⟨t, e, h⟩ => ⟨t, e, k7.T h⟩, hR, fun p2 => ?_, ?_, hvl5⟩
      · rw [valV_put, htk, kidsL_append, kidsL_cons, kidsL_nil, List.append_nil]
        by_cases e : p2 = p
        · subst e
          rw [if_pos rfl, if_pos rfl]
          simp
        · rw [if_neg e, if_neg fun z => e z.symm, List.append_nil]
          exact hlv p2
      · have := putlen lvs p (V.str n); omega
  · rintro σ' H3 ⟨u6, u7, lvs, vs, acc, rfl, sm, hn, hl, hf, hal, hR, hlv, hll, hvl⟩
    rw [List.length_map, ← hplen, List.drop_length] at hR
    have hR2 : acc = fewL x y := by rw [← hR]; exact (List.append_nil _).symm
    subst hR2
    refine ⟨_, rfl, pf, _, rfl, .inl ⟨.inl (.inl hf), fun pt hpt => ?_⟩⟩
    generalize hE_H4 : upd H3 pt _ = H4
    have e7 := (congrFun hE_H4 pt).symm.trans upd_same
    have n7 : ∀ q_, q_ ≠ pt → H4 q_ = H3 q_ := by subst hE_H4; exact fun q_ h => upd_ne h
    have s7 : Same H3 H4 := by subst hE_H4; exact same_new hpt
    clear hE_H4
    exact q pt H4 ((s1s.trans sm).trans s7) ⟨vs, .inl (.inl e7), hal.mono fun _ _ ⟨t, e, h⟩ => ⟨t, e, sameT s7 h⟩⟩
end
end K76
/-! text W10 -/
set_option Elab.async false
set_option linter.all false
set_option maxRecDepth 100000
set_option maxHeartbeats 4000000
namespace K76
open PySem PySem.Spec PyProof.Rows L2
def spPairs (K : PySem.W.Frag) : Sp := fun vs H Q _ => ∃ (a : Addr) (val : Val), vs = [.ref a] ∧ ValAt K H a val ∧ Ans H (.bl true) Q
def rightV (x y : Wd Str) (ys : List Str) : Val := ys.map fun n => (n, lblOf x y n)
structure Srt (x y : Wd Str) (ys : List Str) : Prop where
  pm : ys.Perm ((stayL x y).map (·.1))
  so : sortedS ys = true
def spRight (K : PySem.W.Frag) : Sp := fun vs H Q _ => ∃ (a b c : Addr) (x y : Wd Str) (ys : List Str), vs = [.ref a, .ref b, .ref c] ∧ WoodAt K H a x ∧ WoodAt K H b y ∧ WdOk x ∧ WdOk y ∧ (Wd.nms x).Perm (Wd.nms y) ∧ Srt x y ys ∧ ValAt K H c (rightV x y ys) ∧ Ans H (.bl true) Q
/-- the dict of what stays -/
def StD (H : Hp) (a : Addr) (x y : Wd Str) : Prop := ∃ kvs : List (Key × V), H a = some (.dK kvs) ∧ kvs.map (·.1) = (stayL x y).map (fun e => kS e.1) ∧ ∀ n p, (n, p) ∈ stayL x y → valV kvs (kS n) = some (pV p)
theorem std_of {K : PySem.W.Frag} {H : Hp} {ys : List V} {x y : Wd Str} (ok : WdOk x) (h : Al (StAt K H) ys (stayL x y)) : ∃ (ps : List Addr) (kvs : List (Key × V)), ys = ps.map V.ref ∧ Paired (fun p kv => SqT K H p [kV kv.1, kv.2]) ps kvs ∧
    mergeK [] kvs = kvs ∧ kvs.map (·.1) = (stayL x y).map (fun e => kS e.1) ∧ ∀ n p, (n, p) ∈ stayL x y → valV kvs (kS n) = some (pV p) := by
  obtain ⟨ps, e, hal⟩ := al_paired (K := K) (R := fun t (z : Str × Option Str) => SqT K H t [.str z.1, pV z.2]) h
  have hk : ((stayL x y).map (fun z => (kS z.1, pV z.2))).map (·.1) = (stayL x y).map (fun e => kS e.1) := by rw [List.map_map]; rfl
  have nd : (((stayL x y).map (fun z => (kS z.1, pV z.2))).map (·.1)).Nodup := by
    rw [hk, show (fun e : Str × Option Str => kS e.1) = kS ∘ (·.1) from rfl, ← List.map_map]
    exact List.Pairwise.map kS (fun a b h e => h (Sum.inr.inj e)) (stay_nd ok)
  refine ⟨ps, (stayL x y).map (fun z => (kS z.1, pV z.2)), e, paired_of (f := fun z : Str × Option Str => (kS z.1, pV z.2)) (fun _ _ h => h) hal, merge_nd ((stayL x y).map (fun z => (kS z.1, pV z.2))) [] (by rw [List.nil_append]; exact nd), hk, fun n p h => valV_nd nd ?_⟩
  exact List.mem_map_of_mem (f := fun z : Str × Option Str => (kS z.1, pV z.2)) h
section
variable {P : Program} {w : World} {K : PySem.W.Frag} {mg : Str → Option Value} {base : Heap}
abbrev N_are_pairs : List Str := ["value", "pair"]
theorem sc_are_pairs : FnScope N_are_pairs ["value"] (defScope (top 39)) := ⟨rfl, rfl, rfl, by decide +kernel, rfl, by decide +kernel, by decide +kernel⟩
theorem cal_are_pairs (T : Tp K mg) (F : Fnn K mg "are_pairs" 39)   : Cal P w K mg base 1 "are_pairs" (spPairs K) := by
  have nd := sc_are_pairs.nd
  refine cal F (fun _ _ _ _ _ _ us hl => match us, hl with | [_], _ => rfl) sc_are_pairs (fun vs H Q E h => by obtain ⟨a, val, rfl, ⟨vs0, ha, hal⟩, q⟩ := h; rfl) (fun f cdv A outer s H vs Q E hr h => ?_)
  have hu := hu_of hr
  refine ⟨_, (pss_cons (ps_if (pt_not (pt_val (pe_callB call_isi (by rfl) T.b_isinstance (by decide +kernel) (pa_cons (pv 0) (pa_cons (pe_bltn (v := .ty "tuple") (by rfl) T.b_tuple (by decide +kernel) rfl) pa_nil))))) (pss_one (ps_ret pe_bl)) pss_nil)
      (pss_cons (ps_for PassesOwn.never rfl (pi_tup (pv 0)) (pg_name (i := 1) nd rfl (.inl rfl)) (pss_cons (ps_if (PW.pt (pw_or (pt_not (pt_val (pe_callB call_isi (by rfl) T.b_isinstance (by decide +kernel) (pa_cons (pv 1) (pa_cons (pe_bltn (v := .ty "tuple") (by rfl) T.b_tuple (by decide +kernel) rfl) pa_nil))))) (pw_or1 (pt_cmpR op_ne (pe_callB call_len (by rfl) T.b_len (by decide +kernel) (pa_cons (pv 1) pa_nil)) pe_int (nomark _))))) (pss_one (ps_ret pe_bl)) pss_nil)
      (pss_one (ps_if (PW.pt (pw_or (pt_not (pt_val (pe_callB call_isi (by rfl) T.b_isinstance (by decide +kernel) (pa_cons (pe_ix ix_tup (pv 1) pe_int (fun _ _ => rfl)) (pa_cons (pe_bltn (v := .ty "int") (by rfl) T.b_int (by decide +kernel) rfl) pa_nil))))) (pw_or (pt_val (pe_callB call_isi (by rfl) T.b_isinstance (by decide +kernel) (pa_cons (pe_ix ix_tup (pv 1) pe_int (fun _ _ => rfl)) (pa_cons (pe_bltn (v := .ty "bool") (by rfl) T.b_bool (by decide +kernel) rfl) pa_nil)))) (pw_or1 (pt_cmpR op_lt (pe_ix ix_tup (pv 1) pe_int (fun _ _ => rfl)) pe_int (nomark _)))))) (pss_one (ps_ret pe_bl)) pss_nil))))
      (pss_one (ps_ret pe_bl)))), ?_⟩
  obtain ⟨a, val, rfl, ⟨vs0, ha, hal⟩, q⟩ := h
  refine ⟨_, rfl, _, _, .type "tuple", _, true, rfl, .ty "tuple", tyT ha, kit_ty (by decide +kernel), _, rfl, ifE false rfl ?_⟩
  refine ⟨_, rfl, a, rfl, ⟨_, ha⟩, ?_⟩
  refine for_it (walk_tup (K := K) (a := a) (xs := vs0)) (fun i σ' H' => ∃ u, σ' = [some (.ref a), u] ∧ Same H H') ⟨_, rfl, Same.refl H⟩ ?_ ?_ ?_
  · rintro i σ' H' _ ⟨u, rfl, sm⟩
    exact sameT sm ha
  · rintro i v σ' H1 H2 hi ⟨u, rfl, sm⟩ ⟨rfl, hv⟩
    obtain ⟨⟨n, k⟩, hz, t, rfl, ht⟩ := hal.get hv
    have ht := sameT sm ht
    refine ⟨_, rfl, _, _, .type "tuple", _, true, rfl, .ty "tuple", tyT ht, kit_ty (by decide +kernel), _, rfl, ?_⟩
    refine ⟨_, rfl, _, _, rfl, .inr ⟨_, ht, rfl⟩, rfl, _, rfl, ifE false rfl ?_⟩
    refine ⟨_, rfl, t, _, _, _, rfl, rfl, ht, rfl, _, _, .type "int", _, true, rfl, .ty "int", .base (.int _), kit_ty (by decide +kernel), _, rfl, ?_⟩
    refine ⟨_, rfl, t, _, _, _, rfl, rfl, ht, rfl, _, _, .type "int", _, false, rfl, .ty "bool", .base (.int _), kit_ty (by decide +kernel), _, rfl, ?_⟩
    refine ⟨_, rfl, t, _, _, _, rfl, rfl, ht, rfl, _, _, rfl, rfl, _, rfl, ifE false (decide_eq_false (by show ¬ ((k : Nat) : Int) < 0; omega)) ?_⟩
    exact ⟨_, rfl, sm⟩
  · rintro σ' H1 ⟨u, rfl, sm⟩
    exact q H1 sm
abbrev N_are_right : List Str := ["one", "other", "value", "stay", "pair", "here", "there", "at", "name", "label", "its", "its_label"]
theorem sc_are_right : FnScope N_are_right ["one", "other", "value"] (defScope (top 40)) := ⟨rfl, rfl, rfl, by decide +kernel, rfl, by decide +kernel, by decide +kernel⟩
theorem cal_are_right (T : Tp K mg) (F : Fnn K mg "are_right" 40)  (c_staying : Cal P w K mg base 4 "staying" (spStaying K)) (c_are_pairs : Cal P w K mg base 1 "are_pairs" (spPairs K)) (c_places : Cal P w K mg base 4 "places" (spPlaces K)) : Cal P w K mg base 5 "are_right" (spRight K) := by
  have nd := sc_are_right.nd
  refine cal F (fun _ _ _ _ _ _ us hl => match us, hl with | [_, _, _], _ => rfl) sc_are_right (fun vs H Q E h => by obtain ⟨a, b, c, x, y, ys, rfl, hx, hy, ox, oy, hp, hs, hv, q⟩ := h; rfl) (fun f cdv A outer s H vs Q E hr h => ?_)
  have hu := hu_of hr
  refine ⟨_, (pss_cons (ps_set (i := 3) nd rfl (.inl rfl) (pe_callTy (call_dictP rfl) (by rfl) T.b_dict (by decide +kernel) (pa_cons (pe_cc c_staying hr (by decide) (by rfl) (pa_cons (pv 0) (pa_cons (pv 1) pa_nil))) pa_nil)))
      (pss_cons (ps_if (PW.pt (pw_or (pt_not (pt_val (pe_cc c_are_pairs hr (by decide) (by rfl) (pa_cons (pv 2) pa_nil)))) (pw_or1 (pt_cmpR (op_neD hr.units) (pe_lc (own := [("pair", 4)]) rfl nd (pi_tup (pv 2)) (blkOk_by (own := [("pair", 4)]) (N := N_are_right) (sc := defScope (top 40)) (by decide +kernel)) (fun _ _ _ _ _ => (pg_name (i := 4) nd rfl (.inl rfl))) (fun _ _ _ _ _ => pts_nil) (fun _ _ _ _ _ => (pe_ix (ix_tupK (K := K) rfl) (pv 4) pe_int (fun _ _ => rfl)))) (pe_callB cr_sortS (by rfl) T.b_sorted (by decide +kernel) (pa_cons (pe_callTy (call_list_keys rfl) (by rfl) T.b_list (by decide +kernel) (pa_cons (pe_keysV (pv 3)) pa_nil)) pa_nil)) (nomark _))))) (pss_one (ps_ret pe_bl)) pss_nil)
      (pss_cons (ps_par (i := 5) (j := 6) rfl nd rfl rfl (by decide) rfl rfl (pa_cons (pe_cc c_places hr (by decide) (by rfl) (pa_cons (pv 0) pa_nil)) (pa_cons (pe_cc c_places hr (by decide) (by rfl) (pa_cons (pv 1) pa_nil)) pa_nil)) (by rfl))
      (pss_cons (ps_for PassesOwn.never rfl (pi_enumT (by rfl) T.b_enumerate (pa_cons (pv 2) pa_nil)) (pg_tup rfl (pgs_cons (pg_name (i := 7) nd rfl (.inl rfl)) (pgs_cons (pg_tup rfl (pgs_cons (pg_name (i := 8) nd rfl (.inl rfl)) (pgs_cons (pg_name (i := 9) nd rfl (.inl rfl)) pgs_nil))) pgs_nil))) (pss_one (ps_for PassesOwn.never rfl (pi_tup (pe_slice sl_tupA (pv 2) po_none (po_some (pv 7)))) (pg_tup rfl (pgs_cons (pg_name (i := 10) nd rfl (.inl rfl)) (pgs_cons (pg_name (i := 11) nd rfl (.inl rfl)) pgs_nil))) (pss_one (ps_if (PW.pt (pw_and (pt_cmpR op_eq (pv 9) (pv 11) (nomark _)) (pw_and1 (pt_cmpR op_eq (pe_dget hu (pv 3) (pv 8) (fun _ _ => rfl)) (pe_dget hu (pv 3) (pv 10) (fun _ _ => rfl)) (nomark _))))) (pss_one (ps_if (pt_cmpR op_eq (pe_cmpR op_lt (pe_dget hu (pv 5) (pv 8) (fun _ _ => rfl)) (pe_dget hu (pv 5) (pv 10) (fun _ _ => rfl)) (nomark _)) (pe_cmpR op_lt (pe_dget hu (pv 6) (pv 8) (fun _ _ => rfl)) (pe_dget hu (pv 6) (pv 10) (fun _ _ => rfl)) (nomark _)) (nomark _)) (pss_one (ps_ret pe_bl)) pss_nil)) pss_nil)))))
      (pss_one (ps_ret pe_bl)))))), ?_⟩
  obtain ⟨a, b, c, x, y, ys, rfl, hx, hy, ox, oy, hp, hs, hv, q⟩ := h
  refine ⟨_, rfl, _, rfl, a, b, x, y, rfl, hx, hy, ox, oy, hp, fun p1 H1 zs np1 s1 hp1 hal => ?_⟩
  obtain ⟨ps, kvs, rfl, hpd, hmg, hkk, hkv⟩ := std_of ox hal
  refine ⟨p1, ps, kvs, rfl, .inl (.inl hp1), hpd, fun pd hpd => ?_⟩
  rw [hmg]
  generalize hE_H2 : upd H1 pd _ = H2
  have e2 := (congrFun hE_H2 pd).symm.trans upd_same
  have n2 : ∀ q_, q_ ≠ pd → H2 q_ = H1 q_ := by subst hE_H2; exact fun q_ h => upd_ne h
  have s2 : Same H1 H2 := by subst hE_H2; exact same_new hpd
  clear hE_H2
  have s12 := s1.trans s2
  have hv2 := hv.same (Kp.of s12)
  refine ⟨_, rfl, c, _, rfl, hv2, fun H3 s3 => ⟨_, rfl, ?_⟩⟩
  have s13 := s12.trans s3
  obtain ⟨vs0, hvs, hval⟩ := hv.same (Kp.of s13)
  refine ⟨_, rfl, c, rfl, ⟨_, hvs⟩, fun D hD => ?_⟩
  have hyl : ys.length ≤ 200 := by
    have := hs.pm.length_eq
    have h2 := stay_le (y := y) ox
    rw [List.length_map] at this
    omega
  refine lc_rel (H1 := H3) ys (fun n H v => ∃ t, v = .ref t ∧ SqT K H t [.str n, .int (lblOf x y n : Nat)]) (fun H v n => v = .str n) (fun _ _ _ _ s h => h) (fun _ => true) (walk_tup (K := K) (a := c) (xs := vs0)) (by rw [hval.len, rightV, List.length_map]) ?_ hD (by omega) (fun H s => sameT s hvs) ?_ ?_
  · rintro i H1 v H2 sm ⟨rfl, hv⟩
    obtain ⟨z, hz, t, e, ht⟩ := hval.get hv
    unfold rightV at hz
    rw [List.getElem?_map] at hz
    cases hz2 : ys[i]? with
    | none => rw [hz2] at hz; cases hz
    | some n => rw [hz2] at hz; cases hz; exact ⟨rfl, n, rfl, t, e, sameT sm ht⟩
  · rintro i n v H4 Qn Qf hi ⟨t, rfl, ht⟩ s4 k1 k2
    exact ⟨rfl, _, rfl, t, _, _, _, rfl, rfl, ht, rfl, k1 H4 _ (Same.refl _) rfl rfl⟩
  intro H4 zs s4 hzs halz
  rw [flt_all] at halz
  have hz : zs = ys.map V.str := by
    clear hzs
    revert zs halz
    clear hyl hval hvs hv hv2 hs
    induction ys with
    | nil => intro zs h; cases zs with
      | nil => rfl
      | cons _ _ => exact h.elim
    | cons n ys ih => intro zs h; cases zs with
      | nil => exact h.elim
      | cons z zs => rw [h.1, ih zs h.2]; rfl
  subst hz
  have s24 := s3.trans s4
  have e4 := s24 _ _ e2
  refine ⟨_, rfl, pd, kvs, rfl, e4, fun v hvv => ?_⟩
  generalize hE_H5 : upd H4 v _ = H5
  have e5 := (congrFun hE_H5 v).symm.trans upd_same
  have n5 : ∀ q_, q_ ≠ v → H5 q_ = H4 q_ := by subst hE_H5; exact fun q_ h => upd_ne h
  have s5 : Same H4 H5 := by subst hE_H5; exact same_new hvv
  clear hE_H5
  refine ⟨v, pd, kvs, rfl, e5, s5 _ _ e4, fun l hl => ?_⟩
  generalize hE_H6 : upd H5 l _ = H6
  have e6 := (congrFun hE_H6 l).symm.trans upd_same
  have n6 : ∀ q_, q_ ≠ l → H6 q_ = H5 q_ := by subst hE_H6; exact fun q_ h => upd_ne h
  have s6 : Same H5 H6 := by subst hE_H6; exact same_new hl
  clear hE_H6
  have hkeys : (kvs.map fun kv => kV kv.1) = ((stayL x y).map (·.1)).map V.str := by
    rw [show (kvs.map fun kv => kV kv.1) = (kvs.map (·.1)).map kV by rw [List.map_map]; rfl, hkk, List.map_map, List.map_map]
    rfl
  rw [hkeys] at e6
  refine ⟨l, _, rfl, .inl (.inl e6), fun zs p7 hpm hso hp7 => ?_⟩
  generalize hE_H7 : upd H6 p7 _ = H7
  have e7 := (congrFun hE_H7 p7).symm.trans upd_same
  have n7 : ∀ q_, q_ ≠ p7 → H7 q_ = H6 q_ := by subst hE_H7; exact fun q_ h => upd_ne h
  have s7 : Same H6 H7 := by subst hE_H7; exact same_new hp7
  clear hE_H7
  have ez : ys = zs := sorted_uniq (hs.pm.trans hpm.symm) hs.so hso
  subst ez
  have so : ∀ s ∈ ys, strO s := fun s h => by
    obtain ⟨z, hz, rfl⟩ := List.mem_map.mp (hs.pm.subset h)
    exact ox.strO _ (par_nm (stay_mem.mp hz).1)
  have s47 := (s5.trans s6).trans s7
  refine ⟨.list (ys.map .str), .list (ys.map .str), .lst (.inl (.inl (s47 _ _ hzs))) (dp_strs _), .lst (.inl (.inl e7)) (dp_strs _), shaped_lst so, shaped_lst so, _, rfl, ifE false ?_ ?_⟩
  · rw [PyData.eqv, eqv_strs]
    simp
  have s07 := (s13.trans s4).trans s47
  refine ⟨_, rfl, a, x, rfl, hx.same (Kp.of s07), ox, fun pa H8 _ s8 hpa => ?_⟩
  refine ⟨_, rfl, b, y, rfl, hy.same (Kp.of (s07.trans s8)), oy, fun pb H9 _ s9 hpb => ⟨_, _, rfl, ?_⟩⟩
  obtain ⟨ka, ha1, _, ha2⟩ := hpa
  obtain ⟨kb, hb1, _, hb2⟩ := hpb
  have ha1 := s9 _ _ ha1
  have s09 := (s07.trans s8).trans s9
  have e9 := s9 _ _ (s8 _ _ (s47 _ _ e4))
  obtain ⟨vs0, hvs, hval⟩ := hv.same (Kp.of s09)
  have hval_get : ∀ {i : Nat} {v : V}, vs0[i]? = some v → ∃ n p f t, ys[i]? = some n ∧ (n, p, f) ∈ lensF x y ∧ v = .ref t ∧ SqT K H9 t [.str n, .int ((f - 1 : Nat) : Int)] := fun {i v} h => by
    obtain ⟨z, hz, t, e, ht⟩ := hval.get h
    unfold rightV at hz
    rw [List.getElem?_map] at hz
    cases hz2 : ys[i]? with
    | none => rw [hz2] at hz; cases hz
    | some n =>
      rw [hz2] at hz; cases hz
      obtain ⟨z, hz3, rfl⟩ := List.mem_map.mp (hs.pm.subset (List.mem_of_getElem? hz2))
      obtain ⟨f, hf⟩ := stay_F (x := z.1) (p := z.2) hz3
      exact ⟨z.1, z.2, f, t, rfl, hf, e, by rw [← lbl_of ox hf]; exact ht⟩
  have hynd : ys.Nodup := hs.pm.nodup_iff.mpr (stay_nd ox)
  have gst : ∀ {n p f}, (n, p, f) ∈ lensF x y → ∀ H', Same H9 H' → DGet H' pd (.str n) (some (pV p)) := fun {n p f} h H' s => by
    have g := DGet.k (k := kS n) (s _ _ e9)
    rw [hkv n p (F_stay h)] at g
    exact g
  have ghe : ∀ {n p f}, (n, p, f) ∈ lensF x y → ∀ H', Same H9 H' → DGet H' pa (.str n) (some (.int (posn x n : Nat))) := fun {n p f} h H' s => by
    have g := DGet.k (k := kS n) (s _ _ ha1)
    rw [ha2 n (par_nm (stay_mem.mp (F_stay h)).1)] at g
    exact g
  have gth : ∀ {n p f}, (n, p, f) ∈ lensF x y → ∀ H', Same H9 H' → DGet H' pb (.str n) (some (.int (posn y n : Nat))) := fun {n p f} h H' s => by
    have g := DGet.k (k := kS n) (s _ _ hb1)
    rw [hb2 n (par_nm (stay_mem.mp (F_stay h)).2)] at g
    exact g
  refine ⟨_, rfl, c, _, rfl, hvs, ?_⟩
  refine for_it (walk_enumT (K := K) (a := c) (xs := vs0)) (fun i σ' H' => ∃ (u4 u7 u8 u9 u10 u11 : Option V), σ' = [some (.ref a), some (.ref b), some (.ref c), some (.ref pd), u4, some (.ref pa), some (.ref pb), u7, u8, u9, u10, u11] ∧ Same H9 H') ⟨_, _, _, _, _, _, rfl, Same.refl _⟩ ?_ ?_ ?_
  · rintro i σ' H' _ ⟨u4, u7, u8, u9, u10, u11, rfl, sm⟩
    exact sameT sm hvs
  · rintro i v σ' H10 H11 hi ⟨u4, u7, u8, u9, u10, u11, rfl, sm⟩ ⟨t, xi, yi, rfl, ht, rfl, e1, e2⟩
    cases e1
    obtain ⟨n, p, f, t2, hn, hf, rfl, ht2⟩ := hval_get e2
    generalize hE_H12 : upd H10 t _ = H12
    have e12 := (congrFun hE_H12 t).symm.trans upd_same
    have n12 : ∀ q_, q_ ≠ t → H12 q_ = H10 q_ := by subst hE_H12; exact fun q_ h => upd_ne h
    have s12 : Same H10 H12 := by subst hE_H12; exact same_new ht
    clear hE_H12
    have sm2 := sm.trans s12
    refine ⟨t, _, rfl, .inl (.inl e12), rfl, _, _, rfl, _, _, rfl, ⟨t2, _, rfl, sameT sm2 ht2, rfl, _, _, rfl, _, _, rfl, rfl, rfl, ?_⟩⟩
    have hil : i < vs0.length := (List.getElem?_eq_some_iff.mp e2).1
    refine ⟨_, rfl, _, rfl, _, rfl, c, _, rfl, sameT sm2 hvs, ?_, fun _ ps hps => ?_⟩
    · intro z
      exfalso
      have := z.2
      rw [HT.sIx_nat] at this
      omega
    generalize hE_H13 : upd H12 ps _ = H13
    have e13 := (congrFun hE_H13 ps).symm.trans upd_same
    have n13 : ∀ q_, q_ ≠ ps → H13 q_ = H12 q_ := by subst hE_H13; exact fun q_ h => upd_ne h
    have s13 : Same H12 H13 := by subst hE_H13; exact same_new hps
    clear hE_H13
    have hcut : cutV vs0 none (some ((i : Nat) : Int)) = vs0.take i := by
      unfold cutV
      rw [HT.sIx_nat, Nat.min_eq_left (by omega)]
      simp [HT.sIx]
    rw [hcut] at e13
    refine ⟨ps, rfl, ⟨_, .inl (.inl e13)⟩, ?_⟩
    refine for_it (walk_tup (K := K) (a := ps) (xs := vs0.take i)) (fun j σ' H' => ∃ (u10 u11 : Option V), σ' = [some (.ref a), some (.ref b), some (.ref c), some (.ref pd), u4, some (.ref pa), some (.ref pb), some (.int (i : Nat)), some (.str n), some (.int ((f - 1 : Nat) : Int)), u10, u11] ∧ Same H13 H') ⟨_, _, rfl, Same.refl _⟩ ?_ ?_ ?_
    · rintro j σ' H' _ ⟨u10, u11, rfl, sm⟩
      exact .inl (.inl (sm _ _ e13))
    · rintro j v σ' H14 H15 hj ⟨u10, u11, rfl, sm14⟩ ⟨rfl, hv14⟩
      have sm15 := (sm2.trans s13).trans sm14
      rw [List.length_take] at hj
      have hji : j < i := by omega
      rw [List.getElem?_take_of_lt hji] at hv14
      obtain ⟨m, p2, g, t3, hm, hg, rfl, ht3⟩ := hval_get hv14
      have hmn : n ≠ m := fun e => by
        subst e
        have h1 : i < ys.length := (List.getElem?_eq_some_iff.mp hn).1
        have := (List.getElem?_inj h1 hynd).mp (hn.trans hm.symm)
        omega
      refine ⟨t3, _, rfl, sameT sm15 ht3, rfl, _, _, rfl, _, _, rfl, rfl, ?_⟩
      refine ⟨_, rfl, _, rfl, rfl, _, rfl, ?_⟩
      by_cases c1 : f - 1 = g - 1
      · refine ifE true (decide_eq_true (by rw [c1])) ⟨_, rfl, _, rfl, _, _, rfl, gst hf _ sm15, _, rfl, _, rfl, _, _, rfl, gst hg _ sm15, scal_pV _ _, _, rfl, ?_⟩
        rw [pV_dec]
        by_cases c2 : p = p2
        · subst c2
          refine ifE true (decide_eq_true rfl) ⟨_, rfl, _, rfl, _, _, rfl, ghe hf _ sm15, _, rfl, _, rfl, _, _, rfl, ghe hg _ sm15, _, _, rfl, rfl, ?_⟩
          refine ⟨_, rfl, _, rfl, _, _, rfl, gth hf _ sm15, _, rfl, _, rfl, _, _, rfl, gth hg _ sm15, _, _, rfl, rfl, rfl, _, rfl, ?_⟩
          have key := right_pair ox (fun z hz => hp.subset hz) hf hg hmn c1
          refine ifE false (decide_eq_false fun z => ?_) ⟨_, _, rfl, sm14⟩
          have z2 := V.bl.inj z
          have k1 : decide (((posn x n : Nat) : Int) < ((posn x m : Nat) : Int)) = decide (posn x n < posn x m) := by
            by_cases h : posn x n < posn x m
            · rw [decide_eq_true h, decide_eq_true (by omega)]
            · rw [decide_eq_false h, decide_eq_false (by omega)]
          have k2 : decide (((posn y n : Nat) : Int) < ((posn y m : Nat) : Int)) = decide (posn y n < posn y m) := by
            by_cases h : posn y n < posn y m
            · rw [decide_eq_true h, decide_eq_true (by omega)]
            · rw [decide_eq_false h, decide_eq_false (by omega)]
          rw [k1, k2, key] at z2
          revert z2
          cases decide (posn y n < posn y m) <;> decide
        · exact ifE false (decide_eq_false c2) ⟨_, _, rfl, sm14⟩
      · exact ifE false (decide_eq_false fun z => c1 (by have := V.int.inj z; omega)) (ifE false rfl ⟨_, _, rfl, sm14⟩)
    · rintro σ' H14 ⟨u10, u11, rfl, sm14⟩
      exact ⟨_, _, _, _, _, _, rfl, (sm2.trans s13).trans sm14⟩
  · rintro σ' H10 ⟨u4, u7, u8, u9, u10, u11, rfl, sm⟩
    exact q H10 (s09.trans sm)
end
end K76
/-! text W11 -/
set_option Elab.async false
set_option linter.all false
set_option maxRecDepth 100000
set_option maxHeartbeats 4000000
namespace K76
open PySem PySem.Spec PyProof.Rows L2
/-! ### the deck -/
def Deck (H : Hp) (d : Addr) : Prop := ∃ a b c : Int, H d = some (.lst [.int a, .int b, .int c])
def SameD (d : Addr) (H H' : Hp) : Prop := ∀ b o, b ≠ d → H b = some o → H' b = some o
theorem SameD.refl (d : Addr) (H : Hp) : SameD d H H := fun _ _ _ e => e
theorem SameD.trans {d : Addr} {H H1 H2 : Hp} (a : SameD d H H1) (b : SameD d H1 H2) : SameD d H H2 := fun c o n e => b c o n (a c o n e)
theorem SameD.of {d : Addr} {H H' : Hp} (s : Same H H') : SameD d H H' := fun b o _ e => s b o e
theorem SameD.kp {d : Addr} {H H' : Hp} (s : SameD d H H') (h : Deck H d) : Kp H H' := fun b o i e => s b o (fun z => by subst z; obtain ⟨x, y, z, h⟩ := h; rw [h] at e; cases e; exact i) e
theorem SameD.free {d : Addr} {H H' : Hp} (s : SameD d H H') (h : Deck H d) (h' : Deck H' d) {p : Addr} (e : H' p = none) : H p = none := by
  cases z : H p with
  | none => rfl
  | some o =>
    have := s p o (fun z => by subst z; obtain ⟨_, _, _, h'⟩ := h'; rw [h'] at e; cases e) z
    rw [this] at e; cases e
theorem Deck.same {H H' : Hp} {d : Addr} (h : Deck H d) (s : Same H H') : Deck H' d := let ⟨a, b, c, e⟩ := h; ⟨a, b, c, s _ _ e⟩
/-- changes of what is new -/
theorem SameD.mut {d p : Addr} {H0 H : Hp} {o : HO} (s : SameD d H0 H) (n : H0 p = none) : SameD d H0 (upd H p o) := fun b u hb e => (upd_ne (ne_of_none e n)).trans (s b u hb e)
theorem Deck.ne {H : Hp} {d p : Addr} (h : Deck H d) (n : H p = none) : p ≠ d := fun z => by subst z; obtain ⟨_, _, _, e⟩ := h; rw [e] at n; cases n
theorem Deck.mut {H H' : Hp} {d p : Addr} (h : Deck H d) (n : p ≠ d) (k : ∀ q, q ≠ p → H' q = H q) : Deck H' d := let ⟨a, b, c, e⟩ := h; ⟨a, b, c, (k d (Ne.symm n)).trans e⟩
def spDeck (K : PySem.W.Frag) : Sp := fun vs H Q _ => ∃ (a : Addr) (ns : List Int), vs = [.ref a] ∧ SqL K H a (ns.map V.int) ∧ ns.length ≤ 1000 ∧ ∀ d H', H d = none → Same H H' → Deck H' d → Q (.ref d) H'
def spDraw : Sp := fun vs H Q _ => ∃ (d : Addr) (m : Int), vs = [.ref d, .int m] ∧ Deck H d ∧ 1 ≤ m ∧ m < 1000000 ∧ ∀ (r : Nat) H', (r : Int) < m → SameD d H H' → Deck H' d → Q (.int (r : Nat)) H'
theorem mod_nat {i m : Int} (h : 1 ≤ m) : ∃ r : Nat, i.fmod m = (r : Int) ∧ (r : Int) < m := by
  have h1 := Int.fmod_nonneg_of_pos i (show 0 < m by omega)
  have h2 := Int.fmod_lt_of_pos i (show 0 < m by omega)
  exact ⟨(i.fmod m).toNat, by omega, by omega⟩
section
variable {P : Program} {w : World} {K : PySem.W.Frag} {mg : Str → Option Value} {base : Heap}
abbrev N_law_deck : List Str := ["_law_script", "_law_great", "_law_mixed", "_law_cell", "_law_more"]
theorem sc_law_deck : FnScope N_law_deck ["_law_script"] (defScope (top 43)) := ⟨rfl, rfl, rfl, by decide +kernel, rfl, by decide +kernel, by decide +kernel⟩
theorem cal_law_deck (T : Tp K mg) (F : Fnn K mg "_law_deck" 43)   : Cal P w K mg base 1 "_law_deck" (spDeck K) := by
  have nd := sc_law_deck.nd
  refine cal F (fun _ _ _ _ _ _ us hl => match us, hl with | [_], _ => rfl) sc_law_deck (fun vs H Q E h => by obtain ⟨a, ns, rfl, hs, hn, q⟩ := h; rfl) (fun f cdv A outer s H vs Q E hr h => ?_)
  have hu := hu_of hr
  refine ⟨_, (pss_cons (ps_par (i := 1) (j := 2) rfl nd rfl rfl (by decide) rfl rfl (pa_cons pe_int (pa_cons (pe_op op_add pe_int (pe_op op_mul pe_int (pe_callB call_len (by rfl) T.b_len (by decide +kernel) (pa_cons (pv 0) pa_nil)))) pa_nil)) (by rfl))
      (pss_cons (ps_for PassesOwn.never rfl (pi_list (pe_slice sl_list (pv 0) po_none (po_some pe_int))) (pg_name (i := 3) nd rfl (.inl rfl)) (pss_cons (ps_set (i := 4) nd rfl (.inl rfl) (pe_op op_add (pe_op op_add (pe_op op_mul pe_int (pe_callB call_abs (by rfl) T.b_abs (by decide +kernel) (pa_cons (pv 3) pa_nil))) (pe_callTy call_int1 (by rfl) T.b_int (by decide +kernel) (pa_cons (pe_cmpR op_lt (pv 3) pe_int (nomark _)) pa_nil))) pe_int))
      (pss_cons (ps_set (i := 2) nd rfl (.inl rfl) (pe_op op_modN (pe_callTy call_int1 (by rfl) T.b_int (by decide +kernel) (pa_cons (pe_op op_add (pe_op op_mul (pv 2) pe_int) (pv 4)) pa_nil)) pe_int))
      (pss_one (ps_if (pt_cmpR op_ge (pe_callB call_abs (by rfl) T.b_abs (by decide +kernel) (pa_cons (pv 3) pa_nil)) (pe_op op_pow pe_int pe_int) (nomark _)) (pss_one (ps_set (i := 1) nd rfl (.inl rfl) (pe_op op_add (pe_op op_mul (pv 1) pe_int) (pe_callB call_abs (by rfl) T.b_abs (by decide +kernel) (pa_cons (pv 3) pa_nil))))) pss_nil)))))
      (pss_one (ps_ret (pe_lst (pa_cons (pv 1) (pa_cons (pv 2) (pa_cons pe_int pa_nil)))))))), ?_⟩
  obtain ⟨a, ns, rfl, hs, hn, q⟩ := h
  refine ⟨_, rfl, _, _, rfl, .inl ⟨_, hs, rfl⟩, _, _, rfl, rfl, .inl ⟨by decide, by decide⟩, _, _, rfl, rfl, _, _, rfl, ?_⟩
  refine ⟨_, rfl, _, rfl, a, _, rfl, hs, fun p hp => ?_⟩
  generalize hE_H1 : upd H p _ = H1
  have e1 := (congrFun hE_H1 p).symm.trans upd_same
  have n1 : ∀ q_, q_ ≠ p → H1 q_ = H q_ := by subst hE_H1; exact fun q_ h => upd_ne h
  have s1 : Same H H1 := by subst hE_H1; exact same_new hp
  clear hE_H1
  have hcut : cutV (ns.map V.int) none (some 60) = (ns.take 60).map V.int := by
    unfold cutV
    rw [show HT.sIx (ns.map V.int).length (ns.map V.int).length (some 60) = min 60 (ns.map V.int).length from HT.sIx_nat _ _ 60]
    simp [HT.sIx, List.map_take]
  rw [hcut] at e1
  refine ⟨p, rfl, ⟨_, .inl (.inl e1)⟩, ?_⟩
  refine for_it (walk_list (K := K) (a := p) (xs := (ns.take 60).map V.int)) (fun i σ' H' => H' = H1 ∧ ∃ (g m : Int) (u3 u4 : Option V), σ' = [some (.ref a), some (.int g), some (.int m), u3, u4]) ⟨rfl, _, _, _, _, rfl⟩ (fun _ _ _ _ h => by rw [h.1]; exact .inl (.inl e1)) ?_ ?_
  · rintro i v σ' H2 H3 hi ⟨rfl, g, m, u3, u4, rfl⟩ ⟨rfl, hv⟩
    have hv : ((ns.take 60).map V.int)[i]? = some v := hv
    rw [List.getElem?_map] at hv
    cases hz : (ns.take 60)[i]? with
    | none => rw [hz] at hv; cases hv
    | some n =>
      rw [hz] at hv
      cases hv
      refine ⟨_, rfl, _, rfl, _, _, rfl, rfl, .inl ⟨by decide, by decide⟩, _, rfl, _, _, rfl, rfl, .inr ⟨_, rfl, _, _, rfl, rfl, _, _, rfl, rfl, ?_⟩⟩
      refine ⟨_, rfl, _, _, rfl, rfl, .inr ⟨by decide, by decide⟩, _, rfl, _, _, rfl, rfl, .inl ⟨_, rfl, _, _, rfl, rfl, (show (2305843009213693951 : Int) ≠ 0 by decide), ?_⟩⟩
      refine ⟨_, rfl, _, rfl, _, _, rfl, rfl, ⟨by decide, by decide, by decide⟩, _, _, rfl, rfl, _, rfl, ?_⟩
      refine ifB (fun _ => ?_) (fun _ => ?_)
      · exact ⟨_, rfl, _, _, rfl, rfl, .inr ⟨by decide, by decide⟩, _, rfl, _, rfl, _, _, rfl, rfl, rfl, _, _, _, _, rfl⟩
      · exact ⟨rfl, _, _, _, _, rfl⟩
  · rintro σ' H2 ⟨rfl, g, m, u3, u4, rfl⟩
    refine ⟨_, rfl, _, rfl, by show 3 ≤ sizeLine; decide, fun d hd => ?_⟩
    generalize hE_H3 : upd H2 d _ = H3
    have e3 := (congrFun hE_H3 d).symm.trans upd_same
    have n3 : ∀ q_, q_ ≠ d → H3 q_ = H2 q_ := by subst hE_H3; exact fun q_ h => upd_ne h
    have s3 : Same H2 H3 := by subst hE_H3; exact same_new hd
    clear hE_H3
    exact q d H3 (s1.free hd) (s1.trans s3) ⟨_, _, _, e3⟩
abbrev N_law_draw : List Str := ["_law_deck_here", "_law_many", "_law_digit", "_law_mixed"]
theorem sc_law_draw : FnScope N_law_draw ["_law_deck_here", "_law_many"] (defScope (top 45)) := ⟨rfl, rfl, rfl, by decide +kernel, rfl, by decide +kernel, by decide +kernel⟩
theorem cal_law_draw (T : Tp K mg) (F : Fnn K mg "_law_draw" 45)   : Cal P w K mg base 1 "_law_draw" spDraw := by
  have nd := sc_law_draw.nd
  refine cal F (fun _ _ _ _ _ _ us hl => match us, hl with | [_, _], _ => rfl) sc_law_draw (fun vs H Q E h => by obtain ⟨d, m, rfl, ⟨x, y, z, hd⟩, h1, h2, q⟩ := h; rfl) (fun f cdv A outer s H vs Q E hr h => ?_)
  have hu := hu_of hr
  refine ⟨_, (pss_cons (ps_if (pt_cmpR op_gt (pe_ix ix_list (pv 0) pe_int (fun _ _ => rfl)) pe_int (nomark _)) (pss_cons (ps_set (i := 2) nd rfl (.inl rfl) (pe_op op_modN (pe_callTy call_int1 (by rfl) T.b_int (by decide +kernel) (pa_cons (pe_ix ix_list (pv 0) pe_int (fun _ _ => rfl)) pa_nil)) (pv 1)))
      (pss_cons (ps_asg (pe_op op_fdiv (pe_ix ix_list (pv 0) pe_int (fun _ _ => rfl)) (pv 1)) (pg_sub (pv 0) pe_int set_list))
      (pss_one (ps_ret (pv 2))))) pss_nil)
      (pss_cons (ps_asg (pe_op op_add (pe_ix ix_list (pv 0) pe_int (fun _ _ => rfl)) pe_int) (pg_sub (pv 0) pe_int set_list))
      (pss_cons (ps_set (i := 3) nd rfl (.inl rfl) (pe_op op_modN (pe_callTy call_int1 (by rfl) T.b_int (by decide +kernel) (pa_cons (pe_op op_add (pe_ix ix_list (pv 0) pe_int (fun _ _ => rfl)) (pe_op op_mul pe_int (pe_ix ix_list (pv 0) pe_int (fun _ _ => rfl)))) pa_nil)) pe_int))
      (pss_cons (ps_set (i := 3) nd rfl (.inl rfl) (pe_op op_modN (pe_callTy call_int1 (by rfl) T.b_int (by decide +kernel) (pa_cons (pe_op op_mul (pv 3) (pe_op op_add (pe_op op_modN (pv 3) pe_int) pe_int)) pa_nil)) pe_int))
      (pss_one (ps_ret (pe_op op_modN (pe_op op_fdiv (pe_op op_modN (pe_callTy call_int1 (by rfl) T.b_int (by decide +kernel) (pa_cons (pe_op op_mul (pv 3) (pv 3)) pa_nil)) pe_int) pe_int) (pv 1)))))))), ?_⟩
  obtain ⟨d, m, rfl, ⟨x, y, z, hd⟩, h1, h2, q⟩ := h
  refine ⟨_, rfl, d, _, _, _, rfl, rfl, .inl (.inl hd), rfl, _, _, rfl, rfl, _, rfl, ?_⟩
  refine ifB (fun _ => ?_) (fun _ => ?_)
  · refine ⟨_, rfl, d, _, _, _, rfl, rfl, .inl (.inl hd), rfl, .inl ⟨_, rfl, _, rfl, _, _, rfl, rfl, (show m ≠ 0 by omega), ?_⟩⟩
    refine ⟨_, rfl, d, _, _, _, rfl, rfl, .inl (.inl hd), rfl, _, rfl, _, _, rfl, rfl, ⟨(show (0 : Int) < m by omega), (show m < 1073741824 by omega)⟩, _, rfl, d, _, _, 0, rfl, rfl, hd, rfl, ?_⟩
    generalize hE_H1 : upd H d _ = H1
    have e1 := (congrFun hE_H1 d).symm.trans upd_same
    have n1 : ∀ q_, q_ ≠ d → H1 q_ = H q_ := by subst hE_H1; exact fun q_ h => upd_ne h
    have k1 : Kp H H1 := by subst hE_H1; exact Kp.mut hd (fun z => z)
    have m1 : ∀ H0, Same H0 H → H0 d = none → Same H0 H1 := by subst hE_H1; exact fun _ s h => same_mut s h
    clear hE_H1
    obtain ⟨r, er, hr⟩ := mod_nat (i := x) h1
    refine ⟨_, rfl, ?_⟩
    show Q (.int (x.fmod m)) H1
    rw [er]
    exact q r H1 hr (fun b o hb e => (n1 b hb).trans e) ⟨_, _, _, e1⟩
  · refine ⟨_, rfl, d, _, _, _, rfl, rfl, .inl (.inl hd), rfl, _, _, rfl, rfl, _, rfl, d, _, _, 2, rfl, rfl, hd, rfl, ?_⟩
    generalize hE_H1 : upd H d _ = H1
    have e1 := (congrFun hE_H1 d).symm.trans upd_same
    have n1 : ∀ q_, q_ ≠ d → H1 q_ = H q_ := by subst hE_H1; exact fun q_ h => upd_ne h
    have k1 : Kp H H1 := by subst hE_H1; exact Kp.mut hd (fun z => z)
    have m1 : ∀ H0, Same H0 H → H0 d = none → Same H0 H1 := by subst hE_H1; exact fun _ s h => same_mut s h
    clear hE_H1
    refine ⟨_, rfl, d, _, _, _, rfl, rfl, .inl (.inl e1), rfl, _, rfl, d, _, _, _, rfl, rfl, .inl (.inl e1), rfl, _, _, rfl, rfl, .inl ⟨by decide, by decide⟩, _, _, rfl, rfl, .inl ⟨_, rfl, _, _, rfl, rfl, (show (18446744073709551557 : Int) ≠ 0 by decide), ?_⟩⟩
    obtain ⟨r1, er1, hr1⟩ := mod_nat (i := y + 11400714819323198485 * (z + 1)) (show (1 : Int) ≤ 18446744073709551557 by decide)
    refine ⟨_, rfl, _, rfl, _, _, rfl, rfl, (show (4294967291 : Int) ≠ 0 by decide), _, _, rfl, rfl, _, _, rfl, rfl, .inl ⟨?_, ?_⟩, .inl ⟨_, rfl, _, _, rfl, rfl, (show (2305843009213693951 : Int) ≠ 0 by decide), ?_⟩⟩
    · show -(2 ^ 64 : Int) < (y + 11400714819323198485 * (z + 1)).fmod 18446744073709551557
      rw [er1]; omega
    · show (y + 11400714819323198485 * (z + 1)).fmod 18446744073709551557 < (2 ^ 64 : Int)
      rw [er1]; omega
    generalize ((y + 11400714819323198485 * (z + 1)).fmod 18446744073709551557 * (((y + 11400714819323198485 * (z + 1)).fmod 18446744073709551557).fmod 4294967291 + 7)) = big
    obtain ⟨r2, er2, hr2⟩ := mod_nat (i := big) (show (1 : Int) ≤ 2305843009213693951 by decide)
    refine ⟨_, rfl, _, rfl, _, _, rfl, rfl, .inl ⟨?_, ?_⟩, .inl ⟨_, rfl, _, _, rfl, rfl, (show (2305843009213693921 : Int) ≠ 0 by decide), _, _, rfl, rfl, ⟨by decide, by decide⟩, _, rfl, _, _, rfl, rfl, (show m ≠ 0 by omega), ?_⟩⟩
    · show -(2 ^ 64 : Int) < big.fmod 2305843009213693951
      rw [er2]; omega
    · show big.fmod 2305843009213693951 < (2 ^ 64 : Int)
      rw [er2]; omega
    obtain ⟨r, er, hr⟩ := mod_nat (i := (big.fmod 2305843009213693951 * big.fmod 2305843009213693951).fmod 2305843009213693921 / 2048) h1
    show Q (.int (((big.fmod 2305843009213693951 * big.fmod 2305843009213693951).fmod 2305843009213693921 / 2048).fmod m)) H1
    rw [er]
    exact q r H1 hr (fun b o hb e => (n1 b hb).trans e) ⟨_, _, _, e1⟩
def spPick (K : PySem.W.Frag) : Sp := fun vs H Q _ => ∃ (d a : Addr) (ss : List Str), vs = [.ref d, .ref a] ∧ Deck H d ∧ a ≠ d ∧ SqL K H a (ss.map V.str) ∧ 1 ≤ ss.length ∧ ss.length < 1000000 ∧ ∀ s H', s ∈ ss → SameD d H H' → Deck H' d → Q (.str s) H'
abbrev N_law_pick : List Str := ["_law_deck_here", "_law_items"]
theorem sc_law_pick : FnScope N_law_pick ["_law_deck_here", "_law_items"] (defScope (top 56)) := ⟨rfl, rfl, rfl, by decide +kernel, rfl, by decide +kernel, by decide +kernel⟩
theorem cal_law_pick (T : Tp K mg) (F : Fnn K mg "_law_pick" 56)  (c__law_draw : Cal P w K mg base 1 "_law_draw" spDraw) : Cal P w K mg base 2 "_law_pick" (spPick K) := by
  have nd := sc_law_pick.nd
  refine cal F (fun _ _ _ _ _ _ us hl => match us, hl with | [_, _], _ => rfl) sc_law_pick (fun vs H Q E h => by obtain ⟨d, a, ss, rfl, hd, hne, ha, h1, h2, q⟩ := h; rfl) (fun f cdv A outer s H vs Q E hr h => ?_)
  have hu := hu_of hr
  refine ⟨_, (pss_one (ps_ret (pe_ix ix_list (pv 1) (pe_cc c__law_draw hr (by decide) (by rfl) (pa_cons (pv 0) (pa_cons (pe_callB call_len (by rfl) T.b_len (by decide +kernel) (pa_cons (pv 1) pa_nil)) pa_nil))) (fun _ _ => rfl)))), ?_⟩
  obtain ⟨d, a, ss, rfl, hd, hne, ha, h1, h2, q⟩ := h
  refine ⟨_, rfl, _, rfl, _, rfl, _, _, rfl, .inl ⟨_, ha, rfl⟩, d, _, rfl, hd, by rw [List.length_map]; omega, by rw [List.length_map]; omega, fun r H1 hr s1 d1 => ?_⟩
  rw [List.length_map] at hr
  have hr2 : r < ss.length := by omega
  refine ⟨a, ss.map V.str, _, .str ss[r], rfl, rfl, ?_, atI_nat ?_, q _ H1 (List.getElem_mem hr2) s1 d1⟩
  · rcases ha with (h | ⟨o, h⟩) | h
    · exact .inl (.inl (s1 _ _ hne h))
    · exact .inl (.inr ⟨o, s1 _ _ hne h⟩)
    · exact .inr h
  · rw [List.getElem?_map, List.getElem?_eq_getElem hr2]; rfl
end
end K76
/-! text D4 -/
set_option Elab.async false
set_option linter.all false
set_option maxRecDepth 100000
set_option maxHeartbeats 4000000
namespace K76
open PySem PySem.Spec PyProof.Rows L2
/-! ### letters -/
def Let (c : Nat) : Prop := 97 ≤ c ∧ c ≤ 122
theorem nm_S {a : List Nat} (h1 : 1 ≤ a.length) (h2 : a.length ≤ 8) (h3 : ∀ c ∈ a, Let c) : IsNm (SX.S a) :=
  ⟨by rw [SX.S_len]; exact h1, by rw [SX.S_len]; exact h2, h3⟩
theorem nm_of {n : Str} (h : IsNm n) : ∃ a : List Nat, n = SX.S a ∧ 1 ≤ a.length ∧ a.length ≤ 8 ∧ ∀ c ∈ a, Let c :=
  ⟨n.cps.toList, (SX.S_tl n).symm, by have := h.1; rw [Array.length_toList]; exact this, by have := h.2.1; rw [Array.length_toList]; exact this, h.2.2⟩
theorem letS_get {r : Nat} (h : r < 26) : atI letS.cps.toList ((r : Nat) : Int) = some (97 + r) := by
  have e : letS.cps.toList = (List.range 26).map (fun i => 97 + i) := by decide +kernel
  refine atI_nat ?_
  rw [e, List.getElem?_map, List.getElem?_range h]
  rfl
theorem joinL_ones (cs : List Nat) : TL.joinL [] (cs.map fun c => [c]) = cs := by
  induction cs with
  | nil => rfl
  | cons c cs ih =>
    cases cs with
    | nil => rfl
    | cons d ds =>
      simp only [List.map_cons, TL.joinL] at ih ⊢
      rw [ih]
      rfl
theorem join_ones (cs : List Nat) : Txt.join "" ((cs.map fun c => (⟨#[c]⟩ : Str))) = SX.S cs := by
  have h := SX.join_S [] (cs.map fun c => [c])
  rw [joinL_ones, List.map_map] at h
  exact h
def sp2 (j : Nat) : List Nat := [97 + j / 26, 97 + j % 26]
theorem sp2_inj {i j : Nat} (h : sp2 i = sp2 j) : i = j := by
  unfold sp2 at h
  injection h with h1 h2
  injection h2 with h2 _
  omega
theorem sp2_let {j : Nat} (h : j < 676) : ∀ c ∈ sp2 j, Let c := by
  intro c hc
  unfold sp2 at hc
  simp at hc
  unfold Let
  omega
theorem eight (a : List Nat) : (⟨(List.replicate 8 (SX.S a).cps).foldl (· ++ ·) #[]⟩ : Str) = SX.S (a ++ a ++ a ++ a ++ a ++ a ++ a ++ a) := by
  refine str_ext ?_
  show ((List.replicate 8 a.toArray).foldl (· ++ ·) #[]).toList = a ++ a ++ a ++ a ++ a ++ a ++ a ++ a
  simp [List.replicate]
end K76
/-! text W12 -/
set_option Elab.async false
set_option linter.all false
set_option maxRecDepth 100000
set_option maxHeartbeats 4000000
namespace K76
open PySem PySem.Spec PyProof.Rows L2
def spName2 : Sp := fun vs H Q _ => ∃ (d : Addr), vs = [.ref d] ∧ Deck H d ∧ ∀ n H', IsNm n → SameD d H H' → Deck H' d → Q (.str n) H'
def spNames2 : Sp := fun vs H Q _ => ∃ (d : Addr) (m : Nat), vs = [.ref d, .int (m : Nat)] ∧ Deck H d ∧ m ≤ 200 ∧ ∀ p H' (ns : List Str), H p = none → H' p = some (.lst (ns.map V.str)) → ns.length = m → ns.Nodup → (∀ n ∈ ns, IsNm n) → SameD d H H' → Deck H' d → Q (.ref p) H'
def spS (j : Nat) : Str := SX.S (sp2 j)
theorem spS_inj {i j : Nat} (h : spS i = spS j) : i = j := sp2_inj (SX.S_inj h)
theorem spS_nm {j : Nat} (h : j < 676) : IsNm (spS j) := nm_S (by simp [sp2]) (by simp [sp2]) (sp2_let h)
theorem sum_ones (cs : List Nat) : ((cs.map fun c => (⟨#[c]⟩ : Str)).map (·.length)).sum = cs.length := by
  induction cs with
  | nil => rfl
  | cons c cs ih =>
    rw [List.map_cons, List.map_cons, List.sum_cons, ih, List.length_cons]
    show 1 + cs.length = _
    omega
def spareV : List V := ((List.range 676).map spS).map V.str
structure NInv (d : Addr) (H H' : Hp) (D pn : Addr) (ns : List Str) : Prop where
  s : SameD d H H'
  dk : Deck H' d
  sp : H' D = some (.lst spareV)
  nm : H' pn = some (.lst (ns.map V.str))
theorem NInv.go {d : Addr} {H H' H2 : Hp} {D pn : Addr} {ns : List Str} (I : NInv d H H' D pn ns) (h1 : D ≠ d) (h2 : pn ≠ d) (s : SameD d H' H2) (dk : Deck H2 d) : NInv d H H2 D pn ns :=
  ⟨I.s.trans s, dk, s _ _ h1 I.sp, s _ _ h2 I.nm⟩
theorem few_sp {ns : List Str} {a : Nat} (h : ∀ j, j < a → spS j ∈ ns) : a ≤ ns.length := by
  have h1 := len_le_of_sub ((List.range a).map spS) ns (List.Pairwise.map spS (fun _ _ hne e => hne (spS_inj e)) List.nodup_range) (fun x hx => by
    obtain ⟨j, hj, rfl⟩ := List.mem_map.mp hx
    exact h j (List.mem_range.mp hj))
  rwa [List.length_map, List.length_range] at h1
section
variable {P : Program} {w : World} {K : PySem.W.Frag} {mg : Str → Option Value} {base : Heap}
abbrev N_law_name : List Str := ["_law_deck_here", "_law_letters", "_law_k"]
theorem sc_law_name : FnScope N_law_name ["_law_deck_here"] (defScope (top 48)) := ⟨rfl, rfl, rfl, by decide +kernel, rfl, by decide +kernel, by decide +kernel⟩
theorem cal_law_name (T : Tp K mg) (F : Fnn K mg "_law_name" 48)  (c__law_draw : Cal P w K mg base 1 "_law_draw" spDraw) : Cal P w K mg base 2 "_law_name" spName2 := by
  have nd := sc_law_name.nd
  refine cal F (fun _ _ _ _ _ _ us hl => match us, hl with | [_], _ => rfl) sc_law_name (fun vs H Q E h => by obtain ⟨d, rfl, hd, q⟩ := h; rfl) (fun f cdv A outer s H vs Q E hr h => ?_)
  have hu := hu_of hr
  refine ⟨_, (pss_cons (ps_set (i := 1) nd rfl (.inr rfl) pe_str)
      (pss_one (ps_ret (pe_join pe_str (pe_lc (own := [("_law_k", 2)]) rfl nd (pi_range1 (by rfl) T.b_range (pa_cons (pe_op op_add pe_int (pe_cc c__law_draw hr (by decide) (by rfl) (pa_cons (pv 0) (pa_cons pe_int pa_nil)))) pa_nil)) (blkOk_by (own := [("_law_k", 2)]) (N := N_law_name) (sc := defScope (top 48)) (by decide +kernel)) (fun _ _ _ _ _ => (pg_name (i := 2) nd rfl (.inl rfl))) (fun _ _ _ _ _ => pts_nil) (fun _ _ _ _ _ => (pe_ix ix_str (pv 1) (pe_cc c__law_draw hr (by decide) (by rfl) (pa_cons (pv 0) (pa_cons pe_int pa_nil))) (fun _ _ => rfl)))))))), ?_⟩
  obtain ⟨d, rfl, hd, q⟩ := h
  refine ⟨⟨_, rfl⟩, _, rfl, d, 8, rfl, hd, by decide, by decide, fun r H1 hr s1 d1 => ?_⟩
  refine ⟨_, _, rfl, rfl, _, rfl, by omega, by omega, fun D hD => ?_⟩
  rw [show ((1 : Int) + (r : Int)).toNat = 1 + r by omega]
  have hDd := d1.ne hD
  refine lc_it (walk_range (lo := 0) (n := 1 + r)) (fun i H' => SameD d H1 H' ∧ Deck H' d ∧ ∃ cs : List Nat, H' D = some (.lst ((cs.map fun c => (⟨#[c]⟩ : Str)).map V.str)) ∧ cs.length = i ∧ ∀ c ∈ cs, Let c)
    ⟨(SameD.refl d H1).mut hD, d1.mut hDd fun q h => upd_ne h, [], upd_same, rfl, fun c h => nomatch h⟩ (fun _ _ _ _ => trivial) ?_ ?_
  · rintro i x H2 H3 hi ⟨s2, d2, cs, hcs, hl, hc⟩ ⟨rfl, rfl⟩
    refine ⟨rfl, _, rfl, _, rfl, d, 26, rfl, d2, by decide, by decide, fun r2 H4 hr2 s4 d4 => ?_⟩
    refine ⟨letS, _, 97 + r2, rfl, rfl, by decide, letS_get (by omega), _, s4 _ _ hDd hcs, by rw [line, List.length_map, List.length_map]; omega, ?_⟩
    have hcs4 := s4 _ _ hDd hcs
    generalize hE_H5 : upd H4 D _ = H5
    have e5 := (congrFun hE_H5 D).symm.trans upd_same
    have n5 : ∀ q_, q_ ≠ D → H5 q_ = H4 q_ := by subst hE_H5; exact fun q_ h => upd_ne h
    have k5 : Kp H4 H5 := by subst hE_H5; exact Kp.mut hcs4 (fun z => z)
    have m5 : ∀ H0, Same H0 H4 → H0 D = none → Same H0 H5 := by subst hE_H5; exact fun _ s h => same_mut s h
    clear hE_H5
    refine ⟨fun b o hb e => (n5 b (ne_of_none e hD)).trans ((s2.trans s4) b o hb e), d4.mut hDd n5, cs ++ [97 + r2], by rw [e5]; simp, by rw [List.length_append, hl]; rfl, fun c h => ?_⟩
    rcases List.mem_append.mp h with h | h
    · exact hc c h
    · rw [List.mem_singleton] at h; subst h; unfold Let; omega
  · rintro H2 ⟨s2, d2, cs, hcs, hl, hc⟩
    refine ⟨_, D, _, rfl, rfl, .inl (.inl (.inl hcs)), ?_, ?_⟩
    · rw [sum_ones, List.length_map]
      show cs.length + cs.length * 0 ≤ _
      omega
    · show Q (.str (Txt.join "" _)) H2
      rw [join_ones]
      exact q _ H2 (nm_S (by omega) (by omega) hc) (s1.trans s2) d2
abbrev N_law_names : List Str := ["_law_deck_here", "_law_many", "_law_letters", "_law_spare", "_law_k", "_law_way", "_law_base", "_law_place", "_law_at", "_law_names_here", "_law_kind", "_law_name_here"]
theorem sc_law_names : FnScope N_law_names ["_law_deck_here", "_law_many"] (defScope (top 49)) := ⟨rfl, rfl, rfl, by decide +kernel, rfl, by decide +kernel, by decide +kernel⟩
theorem cal_law_names (T : Tp K mg) (F : Fnn K mg "_law_names" 49)  (c__law_draw : Cal P w K mg base 1 "_law_draw" spDraw) (c__law_name : Cal P w K mg base 2 "_law_name" spName2) : Cal P w K mg base 3 "_law_names" spNames2 := by
  have nd := sc_law_names.nd
  refine cal F (fun _ _ _ _ _ _ us hl => match us, hl with | [_, _], _ => rfl) sc_law_names (fun vs H Q E h => by obtain ⟨d, m, rfl, hd, hm, q⟩ := h; rfl) (fun f cdv A outer s H vs Q E hr h => ?_)
  have hu := hu_of hr
  refine ⟨_, (pss_cons (ps_set (i := 2) nd rfl (.inr rfl) pe_str)
      (pss_cons (ps_setLc (i := 3) (own := [("_law_k", 4)]) rfl nd rfl rfl (sw_true rfl rfl rfl (by decide +kernel)) (pi_range1 (by rfl) T.b_range (pa_cons pe_int pa_nil)) (blkOk_by (own := [("_law_k", 4)]) (N := N_law_names) (sc := defScope (top 49)) (by decide +kernel)) (fun _ _ _ _ _ => (pg_name (i := 4) nd rfl (.inl rfl))) (fun _ _ _ _ _ => pts_nil) (fun _ _ _ _ _ => (pe_op op_add_str (pe_ix ix_str (pv 2) (pe_op op_fdiv (pv 4) pe_int) (fun _ _ => rfl)) (pe_ix ix_str (pv 2) (pe_op op_modN (pv 4) pe_int) (fun _ _ => rfl)))))
      (pss_cons (ps_par (i := 5) (j := 6) rfl nd rfl rfl (by decide) rfl rfl (pa_cons (pe_cc c__law_draw hr (by decide) (by rfl) (pa_cons (pv 0) (pa_cons pe_int pa_nil))) (pa_cons (pe_slice C8.sl_txt (pe_op op_mul8 (pe_cc c__law_name hr (by decide) (by rfl) (pa_cons (pv 0) pa_nil)) pe_int) po_none (po_some pe_int)) pa_nil)) (by rfl))
      (pss_cons (ps_par3 (i := 7) (j := 8) (l := 9) rfl nd rfl rfl rfl (by decide) (by decide) (by decide) rfl rfl rfl (pa_cons (pe_cc c__law_draw hr (by decide) (by rfl) (pa_cons (pv 0) (pa_cons pe_int pa_nil))) (pa_cons pe_int (pa_cons (pe_lst pa_nil) pa_nil))) (by rfl))
      (pss_cons (ps_for PassesOwn.never rfl (pi_range1 (by rfl) T.b_range (pa_cons (pv 1) pa_nil)) (pg_name (i := 4) nd rfl (.inl rfl)) (C8.pss_cut (ps_set (i := 10) nd rfl (.inl rfl) (pe_ifExp (pt_cmpR op_eq (pv 5) pe_int (nomark _)) (pe_cc c__law_draw hr (by decide) (by rfl) (pa_cons (pv 0) (pa_cons pe_int pa_nil))) (pv 5)))
      (C8.pss_cut (ps_if (pt_cmpR op_eq (pv 10) pe_int (nomark _)) (pss_one (ps_set (i := 11) nd rfl (.inl rfl) (pe_cc c__law_name hr (by decide) (by rfl) (pa_cons (pv 0) pa_nil)))) (pss_one (ps_if (pt_cmpR op_eq (pv 10) pe_int (nomark _)) (pss_one (ps_set (i := 11) nd rfl (.inl rfl) (pe_op op_add_str (pe_op op_add_str (pe_slice C8.sl_txt (pv 6) po_none (po_some (pv 7))) (pe_ix ix_str (pv 2) (pe_cc c__law_draw hr (by decide) (by rfl) (pa_cons (pv 0) (pa_cons pe_int pa_nil))) (fun _ _ => rfl))) (pe_slice C8.sl_txt (pv 6) (po_some (pe_op op_add (pv 7) pe_int)) po_none)))) (pss_one (ps_set (i := 11) nd rfl (.inl rfl) (pe_slice C8.sl_txt (pv 6) po_none (po_some (pe_op op_add pe_int (pe_cc c__law_draw hr (by decide) (by rfl) (pa_cons (pv 0) (pa_cons pe_int pa_nil)))))))))))
      (pss_cons (ps_while PassesOwn.never (pt_cmpR op_in_seq (pv 11) (pv 9) rfl) (pss_cons (ps_set (i := 11) nd rfl (.inl rfl) (pe_ix ix_list (pv 3) (pv 8) (fun _ _ => rfl)))
      (pss_one (ps_set (i := 8) nd rfl (.inl rfl) (pe_op op_add (pv 8) pe_int)))))
      (pss_one (ps_expr (pe_bm PySem.F.plainAttrs_list PySem.F.slot_list_append PySem.F.type_list_append mt_append (pv 9) (pa_cons (pv 11) pa_nil))))))))
      (pss_one (ps_ret (pv 9)))))))), ?_⟩
  obtain ⟨d, m, rfl, hd, hm, q⟩ := h
  refine ⟨676, rfl, by decide, by decide, fun D hD => ?_⟩
  have hDd := hd.ne hD
  refine lc_it (walk_range (lo := 0) (n := 676)) (fun i H' => Same H H' ∧ H' D = some (.lst (((List.range i).map spS).map V.str))) ⟨same_new hD, upd_same⟩ (fun _ _ _ _ => trivial) ?_ ?_
  · rintro i x H2 H3 hi ⟨s2, hsp⟩ ⟨rfl, rfl⟩
    have k1 : (0 + (i : Int)) / 26 = ((i / 26 : Nat) : Int) := by omega
    have k2 : (0 + (i : Int)).fmod 26 = ((i % 26 : Nat) : Int) := by rw [Int.fmod_eq_emod_of_nonneg _ (by decide)]; omega
    refine ⟨rfl, _, rfl, _, rfl, _, _, rfl, rfl, ⟨by decide, by decide⟩, letS, _, 97 + i / 26, rfl, rfl, by decide, ?_, ?_⟩
    · show atI letS.cps.toList ((0 + (i : Int)) / 26) = _
      rw [k1]; exact letS_get (by omega)
    refine ⟨_, rfl, _, rfl, _, _, rfl, rfl, (show (26 : Int) ≠ 0 by decide), letS, _, 97 + i % 26, rfl, rfl, by decide, ?_, ?_⟩
    · show atI letS.cps.toList ((0 + (i : Int)).fmod 26) = _
      rw [k2]; exact letS_get (by omega)
    refine ⟨_, _, rfl, rfl, by show 2 ≤ sizeLine; decide, _, hsp, by rw [line, List.length_map, List.length_map, List.length_range]; omega, same_mut s2 hD, ?_⟩
    rw [upd_same, List.range_succ, List.map_append, List.map_append]
    rfl
  rintro H1 ⟨s1, hsp⟩
  have d1 := hd.same s1
  refine ⟨_, rfl, d, 4, rfl, d1, by decide, by decide, fun r1 H2 hr1 s2 d2 => ?_⟩
  refine ⟨_, rfl, d, rfl, d2, fun n0 H3 hn0 s3 d3 => ⟨n0, rfl, rfl, hn0.1, by have := hn0.2.1; omega, ?_⟩⟩
  obtain ⟨a0, rfl, ha1, ha2, ha3⟩ := nm_of hn0
  rw [eight]
  refine ⟨_, rfl, _, rfl, ?_, ?_⟩
  · rw [SX.S_len, line]; simp only [List.length_append]; omega
  rw [SX.slice_to (by decide)]
  obtain ⟨B, hB, hBl, hBc⟩ : ∃ B : List Nat, (a0 ++ a0 ++ a0 ++ a0 ++ a0 ++ a0 ++ a0 ++ a0).take (8 : Int).toNat = B ∧ B.length = 8 ∧ ∀ c ∈ B, Let c := by
    refine ⟨_, rfl, ?_, fun c hc => ?_⟩
    · rw [List.length_take]; simp only [List.length_append]
      show min 8 _ = 8
      omega
    · have := List.mem_of_mem_take hc
      simp at this
      exact ha3 c this
  rw [hB]
  refine ⟨_, _, rfl, ?_⟩
  refine ⟨_, rfl, d, 8, rfl, d3, by decide, by decide, fun r2 H4 hr2 s4 d4 => ⟨by decide, fun pn hpn => ?_⟩⟩
  have hpnd := d4.ne hpn
  generalize hE_H5 : upd H4 pn _ = H5
  have e5 := (congrFun hE_H5 pn).symm.trans upd_same
  have n5 : ∀ q_, q_ ≠ pn → H5 q_ = H4 q_ := by subst hE_H5; exact fun q_ h => upd_ne h
  have s5 : Same H4 H5 := by subst hE_H5; exact same_new hpn
  clear hE_H5
  refine ⟨_, _, _, rfl, ?_⟩
  have s05 : SameD d H H5 := ((((SameD.of s1).trans s2).trans s3).trans s4).trans (SameD.of s5)
  have hsp5 : H5 D = some (.lst spareV) := s5 _ _ (s4 _ _ hDd (s3 _ _ hDd (s2 _ _ hDd hsp)))
  have nDp : D ≠ pn := fun z => by subst z; rw [s4 _ _ hDd (s3 _ _ hDd (s2 _ _ hDd hsp))] at hpn; cases hpn
  have hpnH : H pn = none := ((((SameD.of s1).trans s2).trans s3).trans s4).free hd d4 hpn
  refine ⟨_, rfl, _, rfl, by omega, by omega, ?_⟩
  rw [show ((m : Nat) : Int).toNat = m by omega]
  refine for_it (walk_range (lo := 0) (n := m)) (fun i σ' H' => ∃ (u4 u10 u11 : Option V) (a : Nat) (ns : List Str), σ' = [some (.ref d), some (.int (m : Nat)), some (.str letS), some (.ref D), u4, some (.int (r1 : Nat)), some (.str (SX.S B)), some (.int (r2 : Nat)), some (.int (a : Nat)), some (.ref pn), u10, u11] ∧
    NInv d H H' D pn ns ∧ ns.length = i ∧ ns.Nodup ∧ (∀ n ∈ ns, IsNm n) ∧ ∀ j, j < a → spS j ∈ ns)
    ⟨_, _, _, 0, [], rfl, ⟨s05, d4.same s5, hsp5, e5⟩, rfl, List.nodup_nil, (fun _ h => nomatch h), fun _ h => absurd h (Nat.not_lt_zero _)⟩ (fun _ _ _ _ _ => trivial) ?_ ?_
  · rintro i v σ' H6 H7 hi ⟨u4, u10, u11, a, ns, rfl, I, hnl, hnd, hnm, hsa⟩ ⟨rfl, rfl⟩
    refine ⟨fun σ' H' => ∃ kv : Int, σ' = [some (.ref d), some (.int (m : Nat)), some (.str letS), some (.ref D), some (.int (0 + (i : Int))), some (.int (r1 : Nat)), some (.str (SX.S B)), some (.int (r2 : Nat)), some (.int (a : Nat)), some (.ref pn), some (.int kv), u11] ∧ NInv d H H' D pn ns, ?_, ?_⟩
    · refine ⟨_, rfl, rfl, _, rfl, ifB (fun _ => ?_) (fun _ => ?_)⟩
      · exact ⟨_, rfl, d, 3, rfl, I.dk, by decide, by decide, fun r H8 hr s8 d8 => ⟨_, rfl, I.go hDd hpnd s8 d8⟩⟩
      · exact ⟨_, rfl, _, rfl, I⟩
    rintro σ' H8 ⟨kv, rfl, I⟩
    refine ⟨fun σ' H' => ∃ nn : Str, IsNm nn ∧ σ' = [some (.ref d), some (.int (m : Nat)), some (.str letS), some (.ref D), some (.int (0 + (i : Int))), some (.int (r1 : Nat)), some (.str (SX.S B)), some (.int (r2 : Nat)), some (.int (a : Nat)), some (.ref pn), some (.int kv), some (.str nn)] ∧ NInv d H H' D pn ns, ?_, ?_⟩
    · refine ⟨_, rfl, rfl, _, rfl, ifB (fun _ => ?_) (fun _ => ?_)⟩
      · exact ⟨_, rfl, d, rfl, I.dk, fun nn H9 hnn s9 d9 => ⟨nn, hnn, rfl, I.go hDd hpnd s9 d9⟩⟩
      refine ⟨_, rfl, rfl, _, rfl, ifB (fun _ => ?_) (fun _ => ?_)⟩
      · refine ⟨_, rfl, _, rfl, _, rfl, _, rfl, by rw [line, SX.S_len]; omega, ?_⟩
        rw [SX.slice_to (by omega)]
        refine ⟨_, rfl, _, rfl, d, 26, rfl, I.dk, by decide, by decide, fun r H9 hr s9 d9 => ?_⟩
        refine ⟨letS, _, 97 + r, rfl, rfl, by decide, letS_get (by omega), _, _, rfl, rfl, ?_, ?_⟩
        · rw [line, SX.S_len, List.length_take]
          show _ + 1 ≤ _
          omega
        refine ⟨_, rfl, _, rfl, _, _, rfl, rfl, _, rfl, _, rfl, by rw [line, SX.S_len]; omega, ?_⟩
        rw [SX.slice_from (by omega)]
        refine ⟨_, _, rfl, rfl, ?_, ?_⟩
        · have e : (SX.S (B.take ((r2 : Nat) : Int).toNat) ++ (⟨#[97 + r]⟩ : Str)).length ≤ 9 := by
            show (SX.S (B.take ((r2 : Nat) : Int).toNat) ++ SX.S [97 + r]).length ≤ 9
            rw [SX.S_cat, SX.S_len, List.length_append, List.length_take, List.length_singleton]
            omega
          have e2 : (SX.S (B.drop (((r2 : Nat) : Int) + 1).toNat)).length ≤ 8 := by
            rw [SX.S_len, List.length_drop]; omega
          rw [line]
          exact Nat.le_trans (Nat.add_le_add e e2) (by decide)
        refine ⟨SX.S (B.take r2 ++ [97 + r] ++ B.drop (r2 + 1)), nm_S ?_ ?_ ?_, ?_, I.go hDd hpnd s9 d9⟩
        · simp only [List.length_append, List.length_singleton]; omega
        · simp only [List.length_append, List.length_singleton, List.length_take, List.length_drop]; omega
        · intro c hc
          rcases List.mem_append.mp hc with hc | hc
          · rcases List.mem_append.mp hc with hc | hc
            · exact hBc c (List.mem_of_mem_take hc)
            · rw [List.mem_singleton] at hc; subst hc; unfold Let; omega
          · exact hBc c (List.mem_of_mem_drop hc)
        · have e : SX.S (B.take ((r2 : Nat) : Int).toNat) ++ (⟨#[97 + r]⟩ : Str) ++ SX.S (B.drop (((r2 : Nat) : Int) + 1).toNat) = SX.S (B.take r2 ++ [97 + r] ++ B.drop (r2 + 1)) := by
            show SX.S (B.take ((r2 : Nat) : Int).toNat) ++ SX.S [97 + r] ++ SX.S (B.drop (((r2 : Nat) : Int) + 1).toNat) = _
            rw [SX.S_cat, SX.S_cat, show ((r2 : Nat) : Int).toNat = r2 by omega, show (((r2 : Nat) : Int) + 1).toNat = r2 + 1 by omega]
          rw [← e]
          rfl
      · refine ⟨_, rfl, _, rfl, d, 8, rfl, I.dk, by decide, by decide, fun r H9 hr s9 d9 => ⟨_, _, rfl, rfl, _, rfl, _, rfl, by rw [line, SX.S_len]; omega, ?_⟩⟩
        rw [SX.slice_to (by show (0 : Int) ≤ 1 + (r : Int); omega)]
        refine ⟨_, nm_S ?_ ?_ (fun c hc => hBc c (List.mem_of_mem_take hc)), rfl, I.go hDd hpnd s9 d9⟩
        · rw [List.length_take]
          show 1 ≤ min ((1 : Int) + (r : Int)).toNat _
          omega
        · rw [List.length_take]; omega
    rintro σ' H9 ⟨nn, hnn, rfl, I⟩
    refine ⟨fun μ σ' H' => H' = H9 ∧ ∃ (a : Nat) (nn : Str), σ' = [some (.ref d), some (.int (m : Nat)), some (.str letS), some (.ref D), some (.int (0 + (i : Int))), some (.int (r1 : Nat)), some (.str (SX.S B)), some (.int (r2 : Nat)), some (.int (a : Nat)), some (.ref pn), some (.int kv), some (.str nn)] ∧
      IsNm nn ∧ (∀ j, j < a → spS j ∈ ns ∨ spS j = nn) ∧ μ = 676 - a ∧ a ≤ 676, ⟨_, rfl, a, nn, rfl, hnn, fun j hj => .inl (hsa j hj), rfl, by have := few_sp hsa; omega⟩, ?_⟩
    rintro μ σ' H10 ⟨rfl, a, nn, rfl, hnn, hsa, rfl, ha⟩
    refine ⟨_, rfl, _, rfl, pn, _, rfl, .inl (.inl (.inl I.nm)), rfl, flat_all _, _, rfl, ?_⟩
    show if inV (V.str nn) (ns.map V.str) = true then _ else _
    rw [in_strs]
    refine ifB (fun hin => ?_) (fun hnin => ?_)
    · have hin := of_decide_eq_true hin
      have hsa2 : ∀ j, j < a → spS j ∈ ns := fun j hj => by
        rcases hsa j hj with h | h
        · exact h
        · rw [h]; exact hin
      have hal := few_sp hsa2
      refine ⟨fun σ' H' => ∃ m', m' < 676 - a ∧ _, fun _ _ h => h, ?_⟩
      refine ⟨_, rfl, _, rfl, D, spareV, _, .str (spS a), rfl, rfl, .inl (.inl I.sp), atI_nat ?_, ?_⟩
      · unfold spareV
        rw [List.getElem?_map, List.getElem?_map, List.getElem?_range (by omega)]
        rfl
      refine ⟨_, rfl, _, _, rfl, rfl, 676 - (a + 1), by omega, rfl, a + 1, spS a, ?_, spS_nm (by omega), fun j hj => ?_, rfl, by omega⟩
      · rfl
      · by_cases h : j = a
        · subst h; exact .inr rfl
        · exact .inl (hsa2 j (by omega))
    · have hnin := of_decide_eq_false hnin
      have hnmv := I.nm
      refine ⟨_, rfl, .inl ⟨rfl, _, .inl (.inl hnmv)⟩, _, rfl, pn, _, _, rfl, rfl, hnmv, by rw [line, List.length_map]; omega, ?_⟩
      generalize hE_H11 : upd H10 pn _ = H11
      have e11 := (congrFun hE_H11 pn).symm.trans upd_same
      have n11 : ∀ q_, q_ ≠ pn → H11 q_ = H10 q_ := by subst hE_H11; exact fun q_ h => upd_ne h
      have k11 : Kp H10 H11 := by subst hE_H11; exact Kp.mut hnmv (fun z => z)
      have m11 : ∀ H0, Same H0 H10 → H0 pn = none → Same H0 H11 := by subst hE_H11; exact fun _ s h => same_mut s h
      clear hE_H11
      refine ⟨_, _, _, a, ns ++ [nn], rfl, ⟨fun b o hb e => (n11 b (ne_of_none e hpnH)).trans (I.s b o hb e), I.dk.mut hpnd n11, (n11 D nDp).trans I.sp, by rw [e11, List.map_append]; rfl⟩, by rw [List.length_append, hnl]; rfl, ?_, fun n h => ?_, fun j hj => ?_⟩
      · rw [List.nodup_append]
        refine ⟨hnd, by simp, fun x hx y hy => ?_⟩
        rw [List.mem_singleton] at hy
        subst hy
        exact fun e => hnin (e ▸ hx)
      · rcases List.mem_append.mp h with h | h
        · exact hnm n h
        · rw [List.mem_singleton] at h; subst h; exact hnn
      · rcases hsa j hj with h | h
        · exact List.mem_append_left _ h
        · rw [h]; exact List.mem_append_right _ (List.mem_singleton.mpr rfl)
  · rintro σ' H6 ⟨u4, u10, u11, a, ns, rfl, I, hnl, hnd, hnm, hsa⟩
    exact ⟨_, rfl, q pn H6 ns hpnH I.nm hnl hnd hnm I.s I.dk⟩
end
end K76
/-! text W13 -/
set_option Elab.async false
set_option linter.all false
set_option maxRecDepth 100000
set_option maxHeartbeats 4000000
namespace K76
open PySem PySem.Spec PyProof.Rows L2
/-- children's lists in a dict -/
def KD (H : Hp) (a : Addr) (S : Str → Prop) (C : Str → List Str) : Prop := ∃ kvs : List (Key × V), H a = some (.dK kvs) ∧ ∀ n, S n → ∃ b, valV kvs (kS n) = some (.ref b) ∧ H b = some (.lst ((C n).map V.str))
theorem KD.same {H H' : Hp} {a : Addr} {S : Str → Prop} {C : Str → List Str} (s : Same H H') (h : KD H a S C) : KD H' a S C := let ⟨k, e, f⟩ := h; ⟨k, s _ _ e, fun n hn => let ⟨b, h1, h2⟩ := f n hn; ⟨b, h1, s _ _ h2⟩⟩
def spWoodOf (K : PySem.W.Frag) (k : Nat) : Sp := fun vs H Q _ => ∃ (a : Addr) (n : Str) (S : Str → Prop) (C : Str → List Str) (x : Wd Str), vs = [.ref a, .str n] ∧ KD H a S C ∧ S n ∧ (∀ m ∈ Wd.nms x, S m) ∧ Agree C x ∧ C n = Wd.roots x ∧ Wd.dep x < k ∧ (Wd.nms x).length ≤ 200 ∧
  ∀ p H', Same H H' → WoodAt K H' p x → Q (.ref p) H'
theorem trs_mem {x : Wd Str} {z : Str × Wd Str} (h : z ∈ trs x) {C : Str → List Str} (ag : Agree C x) : z.1 ∈ Wd.nms x ∧ (∀ m ∈ Wd.nms z.2, m ∈ Wd.nms x) ∧ Agree C z.2 ∧ C z.1 = Wd.roots z.2 ∧ Wd.dep z.2 + 1 ≤ Wd.dep x ∧ (Wd.nms z.2).length ≤ (Wd.nms x).length := by
  induction x with
  | nil => cases h
  | cons n i r _ ih =>
    simp only [trs, List.mem_cons] at h
    obtain ⟨g1, g2, g3⟩ := ag
    rcases h with h | h
    · subst h
      refine ⟨by simp [Wd.nms], fun m hm => by simp [Wd.nms]; exact .inr (.inl hm), g2, g1, by simp only [Wd.dep]; omega, by simp only [Wd.nms, List.length_cons, List.length_append]; omega⟩
    · obtain ⟨h1, h2, h3, h4, h5, h6⟩ := ih h g3
      exact ⟨by simp [Wd.nms]; exact .inr (.inr h1), fun m hm => by simp [Wd.nms]; exact .inr (.inr (h2 m hm)), h3, h4, by simp only [Wd.dep]; omega, by simp only [Wd.nms, List.length_cons, List.length_append]; omega⟩
section
variable {P : Program} {w : World} {K : PySem.W.Frag} {mg : Str → Option Value} {base : Heap}
theorem cal_wood_of0 (F : Fnn K mg "_law_wood_of" 44) : Cal P w K mg base 1 "_law_wood_of" (spWoodOf K 0) := by
  refine cal F (ps := ["_law_kids_here", "_law_name_here"]) (N := ["_law_kids_here", "_law_name_here", "_law_kid"]) (fun _ _ _ _ _ _ us hl => match us, hl with | [_, _], _ => rfl) ⟨rfl, rfl, rfl, by decide +kernel, rfl, by decide +kernel, by decide +kernel⟩ (fun vs H Q E h => ?_) (fun f cdv A outer s H vs Q E hr h => ?_)
  · obtain ⟨_, _, _, _, _, _, _, _, _, _, _, h, _⟩ := h; exact absurd h (Nat.not_lt_zero _)
  · obtain ⟨_, _, _, _, _, _, _, _, _, _, _, h, _⟩ := h; exact absurd h (Nat.not_lt_zero _)
abbrev N_law_wood_of : List Str := ["_law_kids_here", "_law_name_here", "_law_kid"]
theorem sc_law_wood_of : FnScope N_law_wood_of ["_law_kids_here", "_law_name_here"] (defScope (top 44)) := ⟨rfl, rfl, rfl, by decide +kernel, rfl, by decide +kernel, by decide +kernel⟩
theorem cal_law_wood_of (T : Tp K mg) (F : Fnn K mg "_law_wood_of" 44) (k : Nat) (c__law_wood_of : Cal P w K mg base (k + 1) "_law_wood_of" (spWoodOf K k)) : Cal P w K mg base (k + 2) "_law_wood_of" (spWoodOf K (k + 1)) := by
  have nd := sc_law_wood_of.nd
  refine cal F (fun _ _ _ _ _ _ us hl => match us, hl with | [_, _], _ => rfl) sc_law_wood_of (fun vs H Q E h => by obtain ⟨a, n, S, C, x, rfl, hk, hn, hS, ag, hC, hdep, hlen, q⟩ := h; rfl) (fun f cdv A outer s H vs Q E hr h => ?_)
  have hu := hu_of hr
  refine ⟨_, (pss_one (ps_ret (pe_callTy call_tuple_of (by rfl) T.b_tuple (by decide +kernel) (pa_cons (pe_lc (own := [("_law_kid", 2)]) rfl nd (pi_list (pe_dget hu (pv 0) (pv 1) (fun _ _ => rfl))) (blkOk_by (own := [("_law_kid", 2)]) (N := N_law_wood_of) (sc := defScope (top 44)) (by decide +kernel)) (fun _ _ _ _ _ => (pg_name (i := 2) nd rfl (.inl rfl))) (fun _ _ _ _ _ => pts_nil) (fun _ _ _ _ _ => (pe_tup (pa_cons (pv 2) (pa_cons (pe_cc c__law_wood_of hr (Nat.le_refl _) (by rfl) (pa_cons (pv 0) (pa_cons (pv 2) pa_nil))) pa_nil))))) pa_nil)))), ?_⟩
  obtain ⟨a, n, S, C, x, rfl, hk, hn, hS, ag, hC, hdep, hlen, q⟩ := h
  obtain ⟨kvs, hkv, hb⟩ := id hk
  obtain ⟨b, hb1, hb2⟩ := hb n hn
  have g := DGet.k (k := kS n) hkv
  rw [hb1] at g
  rw [hC] at hb2
  refine ⟨_, rfl, _, rfl, _, _, rfl, g, b, rfl, ⟨_, .inl (.inl hb2)⟩, fun D hD => ?_⟩
  refine lc_rel (H1 := H) (trs x) (fun z H v => v = .str z.1) (TreeAt K) (fun _ _ _ _ s h => h.same s) (fun _ => true) (walk_list (K := K) (a := b) (xs := (Wd.roots x).map V.str)) (by rw [List.length_map, ← trs_names, List.length_map]) ?_ hD ?_ (fun H s => .inl (.inl (s _ _ hb2))) ?_ ?_
  · rintro i H1 v H2 sm ⟨rfl, hv⟩
    rw [← trs_names, List.map_map, List.getElem?_map] at hv
    cases hz : (trs x)[i]? with
    | none => rw [hz] at hv; cases hv
    | some z => rw [hz] at hv; exact ⟨rfl, z, rfl, (Option.some.inj hv).symm⟩
  · have := roots_len x
    have h2 : (trs x).length = (Wd.roots x).length := by rw [← trs_names, List.length_map]
    omega
  · intro i z v H2 Qn Qf hi hv s2 k1 k2
    cases hv
    obtain ⟨t1, t2, t3, t4, t5, t6⟩ := trs_mem (List.mem_of_getElem? hi) ag
    refine ⟨rfl, _, rfl, _, rfl, _, rfl, a, z.1, S, C, z.2, rfl, hk.same s2, hS _ t1, fun m hm => hS m (t2 m hm), t3, t4, by omega, by omega, fun p H3 s3 hw => ⟨by show 2 ≤ sizeLine; decide, fun t ht => ?_⟩⟩
    generalize hE_H4 : upd H3 t _ = H4
    have e4 := (congrFun hE_H4 t).symm.trans upd_same
    have n4 : ∀ q_, q_ ≠ t → H4 q_ = H3 q_ := by subst hE_H4; exact fun q_ h => upd_ne h
    have s4 : Same H3 H4 := by subst hE_H4; exact same_new ht
    clear hE_H4
    exact k1 H4 _ (s3.trans s4) rfl ⟨t, p, rfl, .inl (.inl e4), hw.same (Kp.of s4)⟩
  · intro H2 ys s2 hys hal
    rw [flt_all] at hal
    refine ⟨D, _, rfl, .inl ⟨.inl (.inl hys), fun p3 hp3 => ?_⟩⟩
    generalize hE_H3 : upd H2 p3 _ = H3
    have e3 := (congrFun hE_H3 p3).symm.trans upd_same
    have n3 : ∀ q_, q_ ≠ p3 → H3 q_ = H2 q_ := by subst hE_H3; exact fun q_ h => upd_ne h
    have s3 : Same H2 H3 := by subst hE_H3; exact same_new hp3
    clear hE_H3
    exact q p3 H3 (s2.trans s3) ⟨ys, .inl (.inl e3), TreesAt.of (hal.mono fun _ _ h => h.same (Kp.of s3))⟩
theorem cal_wood_of (T : Tp K mg) (F : Fnn K mg "_law_wood_of" 44) : ∀ k, Cal P w K mg base (k + 1) "_law_wood_of" (spWoodOf K k)
  | 0 => cal_wood_of0 F
  | k + 1 => cal_law_wood_of T F k (cal_wood_of T F k)
end
end K76
/-! text W14 -/
set_option Elab.async false
set_option linter.all false
set_option maxRecDepth 100000
set_option maxHeartbeats 4000000
namespace K76
open PySem PySem.Spec PyProof.Rows L2
structure KDn (H : Hp) (d a : Addr) (L : List Str) (C : Str → List Str) (kvs : List (Key × V)) : Prop where
  dk : H a = some (.dK kvs)
  ks : kvs.map (·.1) = L.map kS
  at_ : ∀ n ∈ L, ∃ b, b ≠ d ∧ valV kvs (kS n) = some (.ref b) ∧ H b = some (.lst ((C n).map V.str))
theorem KDn.go {H H' : Hp} {d a : Addr} {L : List Str} {C : Str → List Str} {kvs : List (Key × V)} (h : KDn H d a L C kvs) (hd : Deck H d) (s : SameD d H H') : KDn H' d a L C kvs :=
  ⟨s _ _ (fun z => by subst z; obtain ⟨_, _, _, e⟩ := hd; rw [h.dk] at e; cases e) h.dk, h.ks, fun n hn => let ⟨b, h1, h2, h3⟩ := h.at_ n hn; ⟨b, h1, h2, s _ _ h1 h3⟩⟩
theorem KDn.kd {H : Hp} {d a : Addr} {L : List Str} {C : Str → List Str} {kvs : List (Key × V)} (h : KDn H d a L C kvs) : KD H a (fun n => n ∈ L) C :=
  ⟨kvs, h.dk, fun n hn => let ⟨b, _, h2, h3⟩ := h.at_ n hn; ⟨b, h2, h3⟩⟩
theorem KDn.len {H : Hp} {d a : Addr} {L : List Str} {C : Str → List Str} {kvs : List (Key × V)} (h : KDn H d a L C kvs) : kvs.length = L.length := by
  have := congrArg List.length h.ks
  rwa [List.length_map, List.length_map] at this
theorem KDn.keys {H : Hp} {d a : Addr} {L : List Str} {C : Str → List Str} {kvs : List (Key × V)} (h : KDn H d a L C kvs) : (kvs.map fun kv => kV kv.1) = L.map V.str := by
  rw [show (kvs.map fun kv => kV kv.1) = (kvs.map (·.1)).map kV by rw [List.map_map]; rfl, h.ks, List.map_map]
  rfl
theorem SameD.L {K : PySem.W.Frag} {d a : Addr} {H H' : Hp} {xs : List V} (s : SameD d H H') (n : a ≠ d) (h : SqL K H a xs) : SqL K H' a xs := by
  rcases h with (h | ⟨o, h⟩) | h
  · exact .inl (.inl (s _ _ n h))
  · exact .inl (.inr ⟨o, s _ _ n h⟩)
  · exact .inr h
theorem put_keys {kvs : List (Key × V)} {k : Key} {v u : V} (h : valV kvs k = some u) : (putK kvs k v).map (·.1) = kvs.map (·.1) := by
  unfold putK
  rw [valV_any, h]
  rw [if_pos (by rfl), List.map_map]
  refine List.map_congr_left fun a _ => ?_
  show (if a.1 = k then (a.1, v) else a).1 = a.1
  split <;> rfl
theorem cut_some (L : List Str) {k m : Nat} (h : k + m ≤ L.length) : cutV (L.map V.str) (some (k : Int)) (some ((k : Int) + (m : Int))) = (took L k m).map V.str := by
  unfold cutV took
  have h1 : min k L.length = k := Nat.min_eq_left (by omega)
  have h2 : min (k + m) L.length = k + m := Nat.min_eq_left h
  rw [show ((k : Int) + (m : Int)) = ((k + m : Nat) : Int) by omega, HT.sIx_nat, HT.sIx_nat, List.length_map, h1, h2, show k + m - k = m by omega, List.map_take, List.map_drop]
theorem cut_front (L : List Str) {k : Nat} (h : k ≤ L.length) : cutV (L.map V.str) none (some (k : Int)) = (L.take k).map V.str := by
  unfold cutV
  rw [HT.sIx_nat, List.length_map, Nat.min_eq_left h]
  simp [HT.sIx, List.map_take]
theorem cut_rest (L : List Str) {k : Nat} (h : k ≤ L.length) : cutV (L.map V.str) (some (k : Int)) none = (L.drop k).map V.str := by
  unfold cutV
  rw [HT.sIx_nat, List.length_map, Nat.min_eq_left h]
  simp only [HT.sIx, List.map_drop]
  rw [List.take_of_length_le (by simp)]
def spWood (K : PySem.W.Frag) : Sp := fun vs H Q _ => ∃ (d l : Addr) (ns : List Str), vs = [.ref d, .ref l] ∧ Deck H d ∧ l ≠ d ∧ SqL K H l (ns.map V.str) ∧ ns.Nodup ∧ (∀ n ∈ ns, IsNm n) ∧ ns.length ≤ 200 ∧
  ∀ p H' x, WoodAt K H' p x → WdOk x → (Wd.nms x).Perm ns → SameD d H H' → Deck H' d → Q (.ref p) H'
theorem nm_ne {n : Str} (h : IsNm n) : n ≠ "" := fun e => by subst e; exact absurd h.1 (by decide)
def upC (C : Str → List Str) (n o : Str) (a b : List Str) : Str → List Str := fun y => if y = n then a else if y = o then b else C y
section
variable {P : Program} {w : World} {K : PySem.W.Frag} {mg : Str → Option Value} {base : Heap}
abbrev N_law_wood : List Str := ["_law_deck_here", "_law_names_here", "_law_kids_here", "_law_name_here", "_law_over", "_law_at", "_law_some", "_law_take"]
theorem sc_law_wood : FnScope N_law_wood ["_law_deck_here", "_law_names_here"] (defScope (top 46)) := ⟨rfl, rfl, rfl, by decide +kernel, rfl, by decide +kernel, by decide +kernel⟩
theorem cal_law_wood (T : Tp K mg) (F : Fnn K mg "_law_wood" 46)  (c__law_draw : Cal P w K mg base 1 "_law_draw" spDraw) (c__law_wood_of : Cal P w K mg base 202 "_law_wood_of" (spWoodOf K 201)) : Cal P w K mg base 203 "_law_wood" (spWood K) := by
  have nd := sc_law_wood.nd
  refine cal F (fun _ _ _ _ _ _ us hl => match us, hl with | [_, _], _ => rfl) sc_law_wood (fun vs H Q E h => by obtain ⟨d, l, ns, rfl, hd, hld, hl, hnd, hnm, hlen, q⟩ := h; rfl) (fun f cdv A outer s H vs Q E hr h => ?_)
  have hu := hu_of hr
  refine ⟨_, (pss_cons (ps_set (i := 2) nd rfl (.inl rfl) (pe_disp (pps_cons pe_str (pe_lst pa_nil) pps_nil) (by rfl) (by rfl) (fun z => by cases z) (by decide)))
      (pss_cons (ps_for PassesOwn.never rfl (pi_list (pv 1)) (pg_name (i := 3) nd rfl (.inl rfl)) (pss_cons (ps_set (i := 4) nd rfl (.inl rfl) (pe_ix ix_list (pe_callTy (call_list_keys rfl) (by rfl) T.b_list (by decide +kernel) (pa_cons (pe_keysV (pv 2)) pa_nil)) (pe_cc c__law_draw hr (by decide) (by rfl) (pa_cons (pv 0) (pa_cons (pe_callB call_lenD (by rfl) T.b_len (by decide +kernel) (pa_cons (pv 2) pa_nil)) pa_nil))) (fun _ _ => rfl)))
      (pss_cons (ps_set (i := 5) nd rfl (.inl rfl) (pe_cc c__law_draw hr (by decide) (by rfl) (pa_cons (pv 0) (pa_cons (pe_op op_add (pe_callB call_len (by rfl) T.b_len (by decide +kernel) (pa_cons (pe_dget hu (pv 2) (pv 4) (fun _ _ => rfl)) pa_nil)) pe_int) pa_nil))))
      (pss_cons (ps_set (i := 6) nd rfl (.inl rfl) (pe_dget hu (pv 2) (pv 4) (fun _ _ => rfl)))
      (pss_cons (ps_set (i := 7) nd rfl (.inl rfl) (pe_op op_mul (pe_op op_fdiv (pe_cc c__law_draw hr (by decide) (by rfl) (pa_cons (pv 0) (pa_cons pe_int pa_nil))) pe_int) (pe_cc c__law_draw hr (by decide) (by rfl) (pa_cons (pv 0) (pa_cons (pe_op op_add (pe_op op_sub (pe_callB call_len (by rfl) T.b_len (by decide +kernel) (pa_cons (pv 6) pa_nil)) (pv 5)) pe_int) pa_nil)))))
      (pss_cons (ps_dput hu (pv 2) (pv 3) (pe_slice sl_list (pv 6) (po_some (pv 5)) (po_some (pe_op op_add (pv 5) (pv 7)))) rfl)
      (pss_one (ps_dput hu (pv 2) (pv 4) (pe_op op_cat (pe_op op_cat (pe_slice sl_list (pv 6) po_none (po_some (pv 5))) (pe_lst (pa_cons (pv 3) pa_nil))) (pe_slice sl_list (pv 6) (po_some (pe_op op_add (pv 5) (pv 7))) po_none)) rfl))))))))
      (pss_one (ps_ret (pe_cc c__law_wood_of hr (by decide) (by rfl) (pa_cons (pv 2) (pa_cons pe_str pa_nil))))))), ?_⟩
  obtain ⟨d, l, ns, rfl, hd, hld, hl, hnd, hnm, hlen, q⟩ := h
  intro pd hpd
  generalize hE_Ha : upd H pd _ = Ha
  have e1 := (congrFun hE_Ha pd).symm.trans upd_same
  have n1 : ∀ q_, q_ ≠ pd → Ha q_ = H q_ := by subst hE_Ha; exact fun q_ h => upd_ne h
  have s1 : Same H Ha := by subst hE_Ha; exact same_new hpd
  clear hE_Ha
  refine ⟨by decide, fun b0 hb0 => ?_⟩
  generalize hE_Hb : upd Ha b0 _ = Hb
  have e2 := (congrFun hE_Hb b0).symm.trans upd_same
  have n2 : ∀ q_, q_ ≠ b0 → Hb q_ = Ha q_ := by subst hE_Hb; exact fun q_ h => upd_ne h
  have s2 : Same Ha Hb := by subst hE_Hb; exact same_new hb0
  clear hE_Hb
  refine ⟨s2 _ _ e1, [(kS "", .ref b0)], rfl, by show 1 ≤ 15; decide, ?_⟩
  have e1' := s2 _ _ e1
  generalize hE_Hc : upd Hb pd _ = Hc
  have e3 := (congrFun hE_Hc pd).symm.trans upd_same
  have n3 : ∀ q_, q_ ≠ pd → Hc q_ = Hb q_ := by subst hE_Hc; exact fun q_ h => upd_ne h
  have k3 : Kp Hb Hc := by subst hE_Hc; exact Kp.mut e1' (fun z => z)
  have m3 : ∀ H0, Same H0 Hb → H0 pd = none → Same H0 Hc := by subst hE_Hc; exact fun _ s h => same_mut s h
  clear hE_Hc
  have nbp : b0 ≠ pd := fun z => by subst z; rw [e1] at hb0; cases hb0
  have hpdd := hd.ne hpd
  have hd1 := hd.same s1
  have hb0d := hd1.ne hb0
  have s0c : SameD d H Hc := fun b o hb e => (n3 b (ne_of_none e hpd)).trans ((s1.trans s2) b o e)
  have hdc : Deck Hc d := (hd1.same s2).mut hpdd n3
  refine ⟨_, rfl, l, rfl, ⟨_, s0c.L hld hl⟩, ?_⟩
  refine for_it (walk_list (K := K) (a := l) (xs := ns.map V.str)) (fun i σ' H' => ∃ (u3 u4 u5 u6 u7 : Option V) (kvs : List (Key × V)) (C : Str → List Str) (x : Wd Str), σ' = [some (.ref d), some (.ref l), some (.ref pd), u3, u4, u5, u6, u7] ∧
    SameD d H H' ∧ Deck H' d ∧ KDn H' d pd (("" : Str) :: ns.take i) C kvs ∧ Kin C "" x ∧ (Wd.nms x).Perm (ns.take i))
    ⟨_, _, _, _, _, _, (fun _ => []), .nil, rfl, s0c, hdc, ⟨e3, rfl, fun n hn => ⟨b0, hb0d, ?_, (n3 b0 nbp).trans e2⟩⟩, ⟨trivial, rfl⟩, List.Perm.refl _⟩ ?_ ?_ ?_
  · have : n = "" := by simpa using hn
    subst this
    rfl
  · rintro i σ' H' hi ⟨u3, u4, u5, u6, u7, kvs, C, x, rfl, sm, _⟩
    exact sm.L hld hl
  · rintro i v σ' H1 H2 hi ⟨u3, u4, u5, u6, u7, kvs, C, x, rfl, sm, dk, kd, kin, hpm⟩ ⟨rfl, hv⟩
    have hv : (ns.map V.str)[i]? = some v := hv
    rw [List.getElem?_map] at hv
    cases hz : ns[i]? with
    | none => rw [hz] at hv; cases hv
    | some nm =>
    rw [hz] at hv
    cases hv
    have htk : ns.take (i + 1) = ns.take i ++ [nm] := by rw [List.take_add_one, hz]; rfl
    have hnew : nm ∉ ns.take i := fun h => by
      have := hnd
      rw [← List.take_append_drop i ns, List.nodup_append] at this
      have hi2 : i < ns.length := (List.getElem?_eq_some_iff.mp hz).1
      have hdr : nm ∈ ns.drop i := by rw [List.drop_eq_getElem_cons hi2, (List.getElem?_eq_some_iff.mp hz).2]; exact List.mem_cons_self
      exact this.2.2 _ h _ hdr rfl
    have hnmt : IsNm nm := hnm nm (List.mem_of_getElem? hz)
    have hkl := kd.len
    have htl : (ns.take i).length ≤ 200 := by rw [List.length_take]; omega
    rw [List.length_cons] at hkl
    refine ⟨_, rfl, pd, kvs, rfl, kd.dk, fun v hv => ?_⟩
    generalize hE_H3 : upd H2 v _ = H3
    have e4 := (congrFun hE_H3 v).symm.trans upd_same
    have n4 : ∀ q_, q_ ≠ v → H3 q_ = H2 q_ := by subst hE_H3; exact fun q_ h => upd_ne h
    have s4 : Same H2 H3 := by subst hE_H3; exact same_new hv
    clear hE_H3
    have kd3 := kd.go dk (SameD.of s4)
    refine ⟨v, pd, kvs, rfl, e4, kd3.dk, fun ql hql => ?_⟩
    have hqld := (dk.same s4).ne hql
    generalize hE_H4 : upd H3 ql _ = H4
    have e5 := (congrFun hE_H4 ql).symm.trans upd_same
    have n5 : ∀ q_, q_ ≠ ql → H4 q_ = H3 q_ := by subst hE_H4; exact fun q_ h => upd_ne h
    have s5 : Same H3 H4 := by subst hE_H4; exact same_new hql
    clear hE_H4
    have kd4 := kd3.go (dk.same s4) (SameD.of s5)
    have dk4 := (dk.same s4).same s5
    rw [kd.keys] at e5
    refine ⟨_, rfl, _, rfl, pd, kvs, rfl, kd4.dk, d, _, rfl, dk4, by omega, by omega, fun r H5 hr s6 dk5 => ?_⟩
    have hr2 : r < (("" : Str) :: ns.take i).length := by rw [List.length_cons]; omega
    obtain ⟨o, ho⟩ : ∃ o, (("" : Str) :: ns.take i)[r]? = some o := ⟨_, List.getElem?_eq_getElem hr2⟩
    have hoL : o ∈ ("" : Str) :: ns.take i := List.mem_of_getElem? ho
    refine ⟨ql, _, _, .str o, rfl, rfl, .inl (.inl (s6 _ _ hqld e5)), atI_nat (by rw [List.getElem?_map, ho]; rfl), ?_⟩
    have kd5 := kd4.go dk4 s6
    obtain ⟨b, hbd, hb1, hb2⟩ := kd5.at_ o hoL
    have g5 := DGet.k (k := kS o) kd5.dk
    rw [hb1] at g5
    have hCl : (C o).length ≤ 200 := by
      have h1 : (Wd.nms x).length ≤ 200 := by rw [hpm.length_eq]; exact htl
      rcases List.mem_cons.mp hoL with e | h
      · subst e; rw [kin.2]; have := roots_len x; omega
      · exact Nat.le_trans (agree_len kin.1 (hpm.symm.subset h)) h1
    refine ⟨_, rfl, _, rfl, _, rfl, _, _, rfl, g5, _, (C o).length, rfl, .inl ⟨_, .inl (.inl hb2), by rw [List.length_map]⟩, _, _, rfl, rfl, d, _, rfl, dk5, by omega, by omega, fun at_ H6 hat s7 dk6 => ?_⟩
    have kd6 := kd5.go dk5 s7
    have hb6 := s7 _ _ hbd hb2
    have g6 := DGet.k (k := kS o) kd6.dk
    rw [hb1] at g6
    refine ⟨_, rfl, _, rfl, _, _, rfl, g6, ?_⟩
    refine ⟨_, rfl, d, 4, rfl, dk6, by decide, by decide, fun r3 H7 hr3 s8 dk7 => ⟨_, _, rfl, rfl, ⟨by decide, by decide⟩, ?_⟩⟩
    have hb7 := s8 _ _ hbd hb6
    refine ⟨_, rfl, _, rfl, _, (C o).length, rfl, .inl ⟨_, .inl (.inl hb7), by rw [List.length_map]⟩, _, rfl, _, _, rfl, rfl, _, _, rfl, rfl, d, _, rfl, dk7, by omega, by omega, fun r4 H8 hr4 s9 dk8 => ⟨_, _, rfl, rfl, .inl ⟨?_, ?_⟩, ?_⟩⟩
    · show -(2 ^ 64 : Int) < (r3 : Int) / 3; omega
    · show (r3 : Int) / 3 < (2 ^ 64 : Int); omega
    obtain ⟨m, hm1, hm2⟩ : ∃ m : Nat, (r3 : Int) / 3 * (r4 : Int) = (m : Int) ∧ at_ + m ≤ (C o).length := by
      rcases (show (r3 : Int) / 3 = 0 ∨ (r3 : Int) / 3 = 1 by omega) with e | e
      · exact ⟨0, by rw [e]; simp, by omega⟩
      · exact ⟨r4, by rw [e]; simp, by omega⟩
    have s28 : SameD d H4 H8 := ((s6.trans s7).trans s8).trans s9
    have kd8 := (kd6.go dk6 s8).go dk7 s9
    have hb8 := s9 _ _ hbd hb7
    refine ⟨_, rfl, _, rfl, _, rfl, _, rfl, _, rfl, _, _, rfl, rfl, _, rfl, b, _, rfl, .inl (.inl hb8), fun p1 hp1 => ?_⟩
    have hp1d := dk8.ne hp1
    generalize hE_H9 : upd H8 p1 _ = H9
    have e10 := (congrFun hE_H9 p1).symm.trans upd_same
    have n10 : ∀ q_, q_ ≠ p1 → H9 q_ = H8 q_ := by subst hE_H9; exact fun q_ h => upd_ne h
    have s10 : Same H8 H9 := by subst hE_H9; exact same_new hp1
    clear hE_H9
    have e10 : H9 p1 = some (.lst (cutV ((C o).map V.str) (some (at_ : Int)) (some ((at_ : Int) + (r3 : Int) / 3 * (r4 : Int))))) := e10
    rw [hm1, cut_some _ hm2] at e10
    have kd9 := kd8.go dk8 (SameD.of s10)
    refine ⟨_, rfl, _, rfl, pd, _, rfl, DPut.k (k := kS nm) kd9.dk (by rw [line]; omega), ?_⟩
    have hk9 := kd9.dk
    generalize hE_H10 : upd H9 pd _ = H10
    have e11 := (congrFun hE_H10 pd).symm.trans upd_same
    have n11 : ∀ q_, q_ ≠ pd → H10 q_ = H9 q_ := by subst hE_H10; exact fun q_ h => upd_ne h
    have k11 : Kp H9 H10 := by subst hE_H10; exact Kp.mut hk9 (fun z => z)
    have m11 : ∀ H0, Same H0 H9 → H0 pd = none → Same H0 H10 := by subst hE_H10; exact fun _ s h => same_mut s h
    clear hE_H10
    have dk10 := (dk8.same s10).mut hpdd n11
    have nbp2 : b ≠ pd := fun z => by subst z; rw [kd8.dk] at hb8; cases hb8
    have hb10 : H10 b = some (.lst ((C o).map V.str)) := (n11 b nbp2).trans (s10 _ _ hb8)
    refine ⟨_, rfl, _, rfl, _, rfl, b, _, rfl, .inl (.inl hb10), fun p2 hp2 => ?_⟩
    generalize hE_H11 : upd H10 p2 _ = H11
    have e12 := (congrFun hE_H11 p2).symm.trans upd_same
    have n12 : ∀ q_, q_ ≠ p2 → H11 q_ = H10 q_ := by subst hE_H11; exact fun q_ h => upd_ne h
    have s12 : Same H10 H11 := by subst hE_H11; exact same_new hp2
    clear hE_H11
    rw [cut_front _ (by omega)] at e12
    refine ⟨_, rfl, by show 1 ≤ sizeLine; decide, fun p3 hp3 => ?_⟩
    generalize hE_H12 : upd H11 p3 _ = H12
    have e13 := (congrFun hE_H12 p3).symm.trans upd_same
    have n13 : ∀ q_, q_ ≠ p3 → H12 q_ = H11 q_ := by subst hE_H12; exact fun q_ h => upd_ne h
    have s13 : Same H11 H12 := by subst hE_H12; exact same_new hp3
    clear hE_H12
    refine ⟨p2, p3, _, _, rfl, rfl, s13 _ _ e12, e13, ?_, fun p4 hp4 => ?_⟩
    · rw [line, List.length_map, List.length_take]
      show _ + 1 ≤ _
      omega
    generalize hE_H13 : upd H12 p4 _ = H13
    have e14 := (congrFun hE_H13 p4).symm.trans upd_same
    have n14 : ∀ q_, q_ ≠ p4 → H13 q_ = H12 q_ := by subst hE_H13; exact fun q_ h => upd_ne h
    have s14 : Same H12 H13 := by subst hE_H13; exact same_new hp4
    clear hE_H13
    have hb13 := s14 _ _ (s13 _ _ (s12 _ _ hb10))
    refine ⟨_, rfl, _, rfl, _, rfl, _, _, rfl, rfl, _, rfl, b, _, rfl, .inl (.inl hb13), fun p5 hp5 => ?_⟩
    generalize hE_H14 : upd H13 p5 _ = H14
    have e15 := (congrFun hE_H14 p5).symm.trans upd_same
    have n15 : ∀ q_, q_ ≠ p5 → H14 q_ = H13 q_ := by subst hE_H14; exact fun q_ h => upd_ne h
    have s15 : Same H13 H14 := by subst hE_H14; exact same_new hp5
    clear hE_H14
    have e15 : H14 p5 = some (.lst (cutV ((C o).map V.str) (some ((at_ : Int) + (r3 : Int) / 3 * (r4 : Int))) none)) := e15
    rw [hm1, show ((at_ : Int) + (m : Int)) = ((at_ + m : Nat) : Int) by omega, cut_rest _ hm2] at e15
    refine ⟨p4, p5, _, _, rfl, rfl, s15 _ _ e14, e15, ?_, fun p6 hp6 => ?_⟩
    · rw [line, List.length_append, List.length_map, List.length_map, List.length_take, List.length_drop]
      show _ + 1 + _ ≤ _
      omega
    generalize hE_H15 : upd H14 p6 _ = H15
    have e16 := (congrFun hE_H15 p6).symm.trans upd_same
    have n16 : ∀ q_, q_ ≠ p6 → H15 q_ = H14 q_ := by subst hE_H15; exact fun q_ h => upd_ne h
    have s16 : Same H14 H15 := by subst hE_H15; exact same_new hp6
    clear hE_H15
    have s1015 : Same H10 H15 := (((s12.trans s13).trans s14).trans s15).trans s16
    have dk15 := dk10.same s1015
    have hp6d := (dk10.same (((s12.trans s13).trans s14).trans s15)).ne hp6
    have hk15 := s1015 _ _ e11
    have hno : nm ≠ o := fun z => by
      subst z
      rcases List.mem_cons.mp hoL with e | h
      · exact nm_ne hnmt e
      · exact hnew h
    have hnL : nm ∉ ("" : Str) :: ns.take i := fun h => by
      rcases List.mem_cons.mp h with e | h
      · exact nm_ne hnmt e
      · exact hnew h
    have hvn : valV kvs (kS nm) = none := by
      cases z : valV kvs (kS nm) with
      | none => rfl
      | some v =>
        have h1 := valV_in z
        rw [kd.ks] at h1
        obtain ⟨y, hy, e⟩ := List.mem_map.mp h1
        cases e
        exact absurd hy hnL
    refine ⟨_, rfl, _, rfl, pd, _, rfl, DPut.k (k := kS o) hk15 (by rw [putK_new _ hvn, line, List.length_append]; show _ + 1 < _; omega), ?_⟩
    generalize hE_H16 : upd H15 pd _ = H16
    have e17 := (congrFun hE_H16 pd).symm.trans upd_same
    have n17 : ∀ q_, q_ ≠ pd → H16 q_ = H15 q_ := by subst hE_H16; exact fun q_ h => upd_ne h
    have k17 : Kp H15 H16 := by subst hE_H16; exact Kp.mut hk15 (fun z => z)
    have m17 : ∀ H0, Same H0 H15 → H0 pd = none → Same H0 H16 := by subst hE_H16; exact fun _ s h => same_mut s h
    clear hE_H16
    have hp1p6 : p1 ≠ p6 := ne_of_none (s15 _ _ (s14 _ _ (s13 _ _ (s12 _ _ ((n11 p1 (fun z => by subst z; rw [kd8.dk] at hp1; cases hp1)).trans e10))))) hp6
    have hp1pd : p1 ≠ pd := fun z => by subst z; rw [kd8.dk] at hp1; cases hp1
    have hp6pd : p6 ≠ pd := fun z => by subst z; rw [(((s12.trans s13).trans s14).trans s15) _ _ e11] at hp6; cases hp6
    have s216 : SameD d H H16 := by
      have z1 : SameD d H H9 := ((((sm.trans (SameD.of s4)).trans (SameD.of s5)).trans s28).trans (SameD.of s10))
      have z2 : SameD d H H10 := fun b o hb e => (n11 b (ne_of_none e hpd)).trans (z1 b o hb e)
      have z3 : SameD d H H15 := z2.trans (SameD.of s1015)
      exact fun b o hb e => (n17 b (ne_of_none e hpd)).trans (z3 b o hb e)
    have hins : slot (C o) nm at_ m = (C o).take at_ ++ nm :: (C o).drop (at_ + m) := rfl
    have hoN : o = ("" : Str) ∨ o ∈ Wd.nms x := by
      rcases List.mem_cons.mp hoL with e | h
      · exact .inl e
      · exact .inr (hpm.symm.subset h)
    have hxnd : (Wd.nms x).Nodup := hpm.nodup_iff.mpr (List.Nodup.sublist (List.take_sublist i ns) hnd)
    have hE : ("" : Str) ∉ Wd.nms x := fun h => nm_ne (hnm _ (List.mem_of_mem_take (hpm.subset h))) rfl
    obtain ⟨x', kin', hpm'⟩ := grab (C' := upC C nm o (took (C o) at_ m) (slot (C o) nm at_ m)) kin hE hoN hxnd (fun h => hnew (hpm.subset h)) (nm_ne hnmt) hm2 (if_pos rfl) (by unfold upC; rw [if_neg (Ne.symm hno), if_pos rfl]) (fun y h1 h2 => by unfold upC; rw [if_neg h1, if_neg h2])
    refine ⟨_, _, _, _, _, _, _, x', rfl, s216, dk15.mut hpdd n17, ⟨e17, ?_, fun n hn => ?_⟩, kin', ?_⟩
    · have hov : ∃ u, valV (putK kvs (kS nm) (.ref p1)) (kS o) = some u := ⟨_, by rw [valV_put, if_neg (fun z => hno (Sum.inr.inj z).symm)]; exact hb1⟩
      obtain ⟨u, hu⟩ := hov
      rw [put_keys hu, putK_new _ hvn, List.map_append, kd.ks, htk]
      simp
    · rw [valV_put, valV_put]
      have hn' : n = nm ∨ n ∈ ("" : Str) :: ns.take i := by
        rw [htk] at hn
        rcases List.mem_cons.mp hn with e | h
        · exact .inr (by rw [e]; exact List.mem_cons_self)
        · rcases List.mem_append.mp h with h | h
          · exact .inr (List.mem_cons_of_mem _ h)
          · exact .inl (List.mem_singleton.mp h)
      by_cases c1 : n = o
      · subst c1
        refine ⟨p6, hp6d, by rw [if_pos rfl], ?_⟩
        rw [n17 p6 hp6pd, e16]
        unfold upC
        rw [if_neg (Ne.symm hno), if_pos rfl, hins, List.map_append, List.map_cons]
        simp
      · rw [if_neg (fun z => c1 (Sum.inr.inj z))]
        by_cases c2 : n = nm
        · subst c2
          refine ⟨p1, hp1d, by rw [if_pos rfl], ?_⟩
          rw [n17 p1 hp1pd]
          unfold upC
          rw [if_pos rfl]
          exact s1015 _ _ ((n11 p1 hp1pd).trans e10)
        · rw [if_neg (fun z => c2 (Sum.inr.inj z))]
          obtain ⟨b2, h1, h2, h3⟩ := (kd8.go dk8 (SameD.of s10)).at_ n (hn'.resolve_left c2)
          have nb2 : b2 ≠ pd := fun z => by subst z; rw [hk9] at h3; cases h3
          refine ⟨b2, h1, h2, ?_⟩
          rw [n17 b2 nb2]
          unfold upC
          rw [if_neg c2, if_neg c1]
          exact s1015 _ _ ((n11 b2 nb2).trans h3)
    · rw [htk]
      exact hpm'.trans ((hpm.cons nm).trans (List.perm_append_singleton nm _).symm)
  · rintro σ' H1 ⟨u3, u4, u5, u6, u7, kvs, C, x, rfl, sm, dk, kd, kin, hpm⟩
    rw [List.length_map, List.take_length] at kd hpm
    have hxl := hpm.length_eq
    have hwd : WdOk x := ⟨hpm.nodup_iff.mpr hnd, fun n hn => hnm n (hpm.subset hn), by omega⟩
    have := dep_le x
    refine ⟨_, rfl, pd, "", (fun n => n ∈ ("" : Str) :: ns), C, x, rfl, kd.kd, List.mem_cons_self, fun m hm => List.mem_cons_of_mem _ (hpm.subset hm), kin.1, kin.2, by omega, by omega, fun p H2 s2 hw => ?_⟩
    exact q p H2 x hw hwd hpm (sm.trans (SameD.of s2)) (dk.same s2)
end
end K76
/-! text W15 -/
set_option Elab.async false
set_option linter.all false
set_option maxRecDepth 100000
set_option maxHeartbeats 4000000
namespace K76
open PySem PySem.Spec PyProof.Rows L2
def spTall (K : PySem.W.Frag) : Sp := fun vs H Q _ => ∃ (d l : Addr) (ns : List Str) (t : Nat), vs = [.ref d, .ref l, .int (t : Nat)] ∧ Deck H d ∧ l ≠ d ∧ SqL K H l (ns.map V.str) ∧ ns.Nodup ∧ (∀ n ∈ ns, IsNm n) ∧ ns.length ≤ 200 ∧ 1 ≤ t ∧
  ∀ p H' x, WoodAt K H' p x → WdOk x → (Wd.nms x).Perm ns → SameD d H H' → Deck H' d → Q (.ref p) H'
structure TInv (d : Addr) (H H' : Hp) (pd pp : Addr) (L : List Str) (C : Str → List Str) (kvs dvs : List (Key × V)) : Prop where
  s : SameD d H H'
  dk : Deck H' d
  kd : KDn H' d pd L C kvs
  inj : ∀ n m b, valV kvs (kS n) = some (.ref b) → valV kvs (kS m) = some (.ref b) → n = m
  new : ∀ n b, valV kvs (kS n) = some (.ref b) → H b = none
  dp : H' pp = some (.dK dvs)
  dl : dvs.length ≤ L.length
  di : ∀ n ∈ L, ∃ v : Int, valV dvs (kS n) = some (.int v)
  d0 : valV dvs (kS "") = some (.int 0)
theorem TInv.go {d : Addr} {H H' H2 : Hp} {pd pp : Addr} {L : List Str} {C : Str → List Str} {kvs dvs : List (Key × V)} (I : TInv d H H' pd pp L C kvs dvs) (s : SameD d H' H2) (k : Deck H2 d) : TInv d H H2 pd pp L C kvs dvs :=
  ⟨I.s.trans s, k, I.kd.go I.dk s, I.inj, I.new, s _ _ (fun z => by subst z; obtain ⟨_, _, _, e⟩ := I.dk; rw [I.dp] at e; cases e) I.dp, I.dl, I.di, I.d0⟩
section
variable {P : Program} {w : World} {K : PySem.W.Frag} {mg : Str → Option Value} {base : Heap}
abbrev N_law_tall_wood : List Str := ["_law_deck_here", "_law_names_here", "_law_tall", "_law_kids_here", "_law_deep", "_law_over", "_law_k", "_law_name_here", "_law_some", "_law_one", "_law_row_here"]
theorem sc_law_tall_wood : FnScope N_law_tall_wood ["_law_deck_here", "_law_names_here", "_law_tall"] (defScope (top 47)) := ⟨rfl, rfl, rfl, by decide +kernel, rfl, by decide +kernel, by decide +kernel⟩
theorem cal_law_tall_wood (T : Tp K mg) (F : Fnn K mg "_law_tall_wood" 47)  (c__law_draw : Cal P w K mg base 1 "_law_draw" spDraw) (c__law_wood_of : Cal P w K mg base 202 "_law_wood_of" (spWoodOf K 201)) : Cal P w K mg base 203 "_law_tall_wood" (spTall K) := by
  have nd := sc_law_tall_wood.nd
  refine cal F (fun _ _ _ _ _ _ us hl => match us, hl with | [_, _, _], _ => rfl) sc_law_tall_wood (fun vs H Q E h => by obtain ⟨d, l, ns, t, rfl, hd, hld, hl, hnd, hnm, hlen, ht, q⟩ := h; rfl) (fun f cdv A outer s H vs Q E hr h => ?_)
  have hu := hu_of hr
  refine ⟨_, (pss_cons (ps_asg (pe_tup (pa_cons (pe_disp (pps_cons pe_str (pe_lst pa_nil) pps_nil) (by rfl) (by rfl) (fun z => by cases z) (by decide)) (pa_cons (pe_disp (pps_cons pe_str pe_int pps_nil) (by rfl) (by rfl) (fun z => by cases z) (by decide)) pa_nil))) (pg_tup rfl (pgs_cons (pg_name (i := 3) nd rfl (.inl rfl)) (pgs_cons (pg_name (i := 4) nd rfl (.inr rfl)) pgs_nil))))
      (pss_cons (ps_set (i := 5) nd rfl (.inl rfl) pe_str)
      (pss_cons (ps_for PassesOwn.never rfl (pi_range1 (by rfl) T.b_range (pa_cons (pe_callB call_len (by rfl) T.b_len (by decide +kernel) (pa_cons (pv 1) pa_nil)) pa_nil)) (pg_name (i := 6) nd rfl (.inl rfl)) (pss_cons (ps_set (i := 7) nd rfl (.inl rfl) (pe_ix ix_list (pv 1) (pv 6) (fun _ _ => rfl)))
      (C8.pss_cut (ps_if (pt_cmpR op_ge (pv 6) (pv 2) (nomark _)) (pss_cons (ps_lock (ps_setLc (i := 8) (own := [("_law_one", 9)]) rfl nd rfl rfl (sw_true rfl rfl rfl (by decide +kernel)) (pi_keysM (pv 3)) (blkOk_by (own := [("_law_one", 9)]) (N := N_law_tall_wood) (sc := defScope (top 47)) (by decide +kernel)) (fun _ _ _ _ _ => (pg_name (i := 9) nd rfl (.inl rfl))) (fun _ _ _ _ _ => (pts_one (pt_cmpR op_lt (pe_dget hu (pv 4) (pv 9) (fun _ _ => rfl)) (pv 2) (nomark _)))) (fun _ _ _ _ _ => (pv 9))))
      (pss_one (ps_set (i := 5) nd rfl (.inl rfl) (pe_ix ix_list (pv 8) (pe_cc c__law_draw hr (by decide) (by rfl) (pa_cons (pv 0) (pa_cons (pe_callB call_len (by rfl) T.b_len (by decide +kernel) (pa_cons (pv 8) pa_nil)) pa_nil))) (fun _ _ => rfl))))) pss_nil)
      (pss_cons (ps_set (i := 10) nd rfl (.inl rfl) (pe_dget hu (pv 3) (pv 5) (fun _ _ => rfl)))
      (pss_cons (ps_expr (pe_bm PySem.F.plainAttrs_list PySem.F.slot_list_insert PySem.F.type_list_insert mt_insert (pv 10) (pa_cons (pe_cc c__law_draw hr (by decide) (by rfl) (pa_cons (pv 0) (pa_cons (pe_op op_add (pe_callB call_len (by rfl) T.b_len (by decide +kernel) (pa_cons (pv 10) pa_nil)) pe_int) pa_nil))) (pa_cons (pv 7) pa_nil))))
      (pss_cons (ps_dput hu (pv 3) (pv 7) (pe_lst pa_nil) rfl)
      (pss_cons (ps_dput hu (pv 4) (pv 7) (pe_op op_add (pe_dget hu (pv 4) (pv 5) (fun _ _ => rfl)) pe_int) rfl)
      (pss_one (ps_set (i := 5) nd rfl (.inl rfl) (pv 7))))))))))
      (pss_one (ps_ret (pe_cc c__law_wood_of hr (by decide) (by rfl) (pa_cons (pv 3) (pa_cons pe_str pa_nil)))))))), ?_⟩
  obtain ⟨d, l, ns, t, rfl, hd, hld, hl, hnd, hnm, hlen, ht, q⟩ := h
  intro pd hpd
  generalize hE_Ha : upd H pd _ = Ha
  have e1 := (congrFun hE_Ha pd).symm.trans upd_same
  have n1 : ∀ q_, q_ ≠ pd → Ha q_ = H q_ := by subst hE_Ha; exact fun q_ h => upd_ne h
  have s1 : Same H Ha := by subst hE_Ha; exact same_new hpd
  clear hE_Ha
  refine ⟨by decide, fun b0 hb0 => ?_⟩
  generalize hE_Hb : upd Ha b0 _ = Hb
  have e2 := (congrFun hE_Hb b0).symm.trans upd_same
  have n2 : ∀ q_, q_ ≠ b0 → Hb q_ = Ha q_ := by subst hE_Hb; exact fun q_ h => upd_ne h
  have s2 : Same Ha Hb := by subst hE_Hb; exact same_new hb0
  clear hE_Hb
  refine ⟨s2 _ _ e1, [(kS "", .ref b0)], rfl, by show 1 ≤ 15; decide, ?_⟩
  have e1' := s2 _ _ e1
  generalize hE_Hc : upd Hb pd _ = Hc
  have e3 := (congrFun hE_Hc pd).symm.trans upd_same
  have n3 : ∀ q_, q_ ≠ pd → Hc q_ = Hb q_ := by subst hE_Hc; exact fun q_ h => upd_ne h
  have k3 : Kp Hb Hc := by subst hE_Hc; exact Kp.mut e1' (fun z => z)
  have m3 : ∀ H0, Same H0 Hb → H0 pd = none → Same H0 Hc := by subst hE_Hc; exact fun _ s h => same_mut s h
  clear hE_Hc
  intro pp hpp
  generalize hE_Hd : upd Hc pp _ = Hd
  have e4 := (congrFun hE_Hd pp).symm.trans upd_same
  have n4 : ∀ q_, q_ ≠ pp → Hd q_ = Hc q_ := by subst hE_Hd; exact fun q_ h => upd_ne h
  have s4 : Same Hc Hd := by subst hE_Hd; exact same_new hpp
  clear hE_Hd
  refine ⟨e4, [(kS "", .int 0)], rfl, by show 1 ≤ 15; decide, ?_⟩
  generalize hE_He : upd Hd pp _ = He
  have e5 := (congrFun hE_He pp).symm.trans upd_same
  have n5 : ∀ q_, q_ ≠ pp → He q_ = Hd q_ := by subst hE_He; exact fun q_ h => upd_ne h
  have k5 : Kp Hd He := by subst hE_He; exact Kp.mut e4 (fun z => z)
  have m5 : ∀ H0, Same H0 Hd → H0 pp = none → Same H0 He := by subst hE_He; exact fun _ s h => same_mut s h
  clear hE_He
  refine ⟨by show 2 ≤ sizeLine; decide, fun pt hpt => ?_⟩
  generalize hE_Hf : upd He pt _ = Hf
  have e6 := (congrFun hE_Hf pt).symm.trans upd_same
  have n6 : ∀ q_, q_ ≠ pt → Hf q_ = He q_ := by subst hE_Hf; exact fun q_ h => upd_ne h
  have s6 : Same He Hf := by subst hE_Hf; exact same_new hpt
  clear hE_Hf
  refine ⟨pt, _, rfl, .inl (.inl e6), rfl, _, _, rfl, _, _, rfl, rfl, ?_⟩
  have nbp : b0 ≠ pd := fun z => by subst z; rw [e1] at hb0; cases hb0
  have hpdd := hd.ne hpd
  have hd1 := hd.same s1
  have hb0d := hd1.ne hb0
  have hb0H : H b0 = none := s1.free hb0
  have s0c : SameD d H Hc := fun b o hb e => (n3 b (ne_of_none e hpd)).trans ((s1.trans s2) b o e)
  have hdc : Deck Hc d := (hd1.same s2).mut hpdd n3
  have hppd := hdc.ne hpp
  have hppH : H pp = none := s0c.free hd hdc hpp
  have hpppd : pp ≠ pd := fun z => by subst z; rw [e3] at hpp; cases hpp
  have hppb0 : pp ≠ b0 := fun z => by subst z; rw [(n3 _ nbp).trans e2] at hpp; cases hpp
  have s0f : SameD d H Hf := (show SameD d H He from fun b o hb e => (n5 b (ne_of_none e hppH)).trans ((s0c.trans (SameD.of s4)) b o hb e)).trans (SameD.of s6)
  have hdf : Deck Hf d := ((hdc.same s4).mut hppd n5).same s6
  have I0 : TInv d H Hf pd pp [""] (fun _ => []) [(kS "", .ref b0)] [(kS "", .int 0)] := by
    refine ⟨s0f, hdf, ⟨s6 _ _ ((n5 pd (Ne.symm hpppd)).trans (s4 _ _ e3)), rfl, fun n hn => ⟨b0, hb0d, ?_, s6 _ _ ((n5 b0 (Ne.symm hppb0)).trans (s4 _ _ ((n3 b0 nbp).trans e2)))⟩⟩, fun n m b h1 h2 => ?_, fun n b h => ?_, s6 _ _ e5, Nat.le_refl _, fun n hn => ⟨0, ?_⟩, rfl⟩
    · have : n = "" := by simpa using hn
      subst this; rfl
    · have k1 : kS n = kS "" := by
        by_cases c : kS "" = kS n
        · exact c.symm
        · rw [valV_neg c] at h1; cases h1
      have k2 : kS m = kS "" := by
        by_cases c : kS "" = kS m
        · exact c.symm
        · rw [valV_neg c] at h2; cases h2
      exact (Sum.inr.inj k1).trans (Sum.inr.inj k2).symm
    · by_cases c : kS "" = kS n
      · rw [valV_pos c] at h; cases h; exact hb0H
      · rw [valV_neg c] at h; cases h
    · have : n = "" := by simpa using hn
      subst this; rfl
  refine ⟨_, rfl, _, _, rfl, .inl ⟨_, s0f.L hld hl, rfl⟩, _, rfl, by rw [List.length_map]; omega, by rw [List.length_map]; omega, ?_⟩
  rw [List.length_map, show ((ns.length : Nat) : Int).toNat = ns.length by omega]
  refine for_it (walk_range (lo := 0) (n := ns.length)) (fun i σ' H' => ∃ (u6 u7 u8 u9 u10 : Option V) (kvs dvs : List (Key × V)) (C : Str → List Str) (x : Wd Str) (o : Str), σ' = [some (.ref d), some (.ref l), some (.int (t : Nat)), some (.ref pd), some (.ref pp), some (.str o), u6, u7, u8, u9, u10] ∧
    TInv d H H' pd pp (("" : Str) :: ns.take i) C kvs dvs ∧ o ∈ ("" : Str) :: ns.take i ∧ Kin C "" x ∧ (Wd.nms x).Perm (ns.take i))
    ⟨_, _, _, _, _, _, _, (fun _ => []), .nil, "", rfl, I0, List.mem_cons_self, ⟨trivial, rfl⟩, List.Perm.refl _⟩ (fun _ _ _ _ _ => trivial) ?_ ?_
  · rintro i v σ' H1 H2 hi ⟨u6, u7, u8, u9, u10, kvs, dvs, C, x, o, rfl, I, hoL, kin, hpm⟩ ⟨rfl, rfl⟩
    obtain ⟨nm, hz⟩ : ∃ nm, ns[i]? = some nm := ⟨_, List.getElem?_eq_getElem hi⟩
    have htk : ns.take (i + 1) = ns.take i ++ [nm] := by rw [List.take_add_one, hz]; rfl
    have hnew : nm ∉ ns.take i := fun h => by
      have := hnd
      rw [← List.take_append_drop i ns, List.nodup_append] at this
      have hdr : nm ∈ ns.drop i := by rw [List.drop_eq_getElem_cons hi, (List.getElem?_eq_some_iff.mp hz).2]; exact List.mem_cons_self
      exact this.2.2 _ h _ hdr rfl
    have hnmt : IsNm nm := hnm nm (List.mem_of_getElem? hz)
    have hkl := I.kd.len
    have htl : (ns.take i).length ≤ 200 := by rw [List.length_take]; omega
    rw [List.length_cons] at hkl
    have hdl := I.dl
    rw [List.length_cons] at hdl
    refine ⟨_, rfl, _, rfl, l, _, _, .str nm, rfl, rfl, I.s.L hld hl, ?_, ?_⟩
    · rw [show (0 + (i : Int)) = ((i : Nat) : Int) by omega]
      exact atI_nat (by rw [List.getElem?_map, hz]; rfl)
    refine ⟨fun σ' H' => ∃ (o : Str) (u8 u9 : Option V), σ' = [some (.ref d), some (.ref l), some (.int (t : Nat)), some (.ref pd), some (.ref pp), some (.str o), some (.int (0 + (i : Int))), some (.str nm), u8, u9, u10] ∧ TInv d H H' pd pp (("" : Str) :: ns.take i) C kvs dvs ∧ o ∈ ("" : Str) :: ns.take i, ?_, ?_⟩
    · refine ⟨_, rfl, _, rfl, _, _, rfl, rfl, _, rfl, ifB (fun _ => ?_) (fun _ => ⟨o, u8, u9, rfl, I, hoL⟩)⟩
      refine ⟨pd, .dK kvs, I.kd.dk, trivial, fun od => ?_⟩
      have hk2 := I.kd.dk
      generalize hE_Hl : upd H2 pd _ = Hl
      have e7 := (congrFun hE_Hl pd).symm.trans upd_same
      have n7 : ∀ q_, q_ ≠ pd → Hl q_ = H2 q_ := by subst hE_Hl; exact fun q_ h => upd_ne h
      have k7 : Kp H2 Hl := by subst hE_Hl; exact Kp.mut hk2 (fun z => z)
      have m7 : ∀ H0, Same H0 H2 → H0 pd = none → Same H0 Hl := by subst hE_Hl; exact fun _ s h => same_mut s h
      clear hE_Hl
      refine ⟨_, rfl, pd, od, kvs, rfl, e7, fun D hD => ?_⟩
      have nDp : D ≠ pd := fun z => by subst z; rw [e7] at hD; cases hD
      have hD2 : H2 D = none := (n7 D nDp).symm.trans hD
      have hpp7 : Hl pp = some (.dK dvs) := (n7 pp hpppd).trans I.dp
      refine lc_mapK (H1 := Hl) (("" : Str) :: ns.take i) V.str V.str (fun n => match valV dvs (kS n) with
        | some (.int v) => decide (v < (t : Int))
        | _ => false) (walk_keys (d := pd) (o := od) (kvs := kvs)) I.kd.len ?_ hD (by rw [List.length_cons]; omega) (fun H s => s _ _ e7) ?_ ?_
      · rintro j H3 v H4 ⟨rfl, k, v2, hk, rfl⟩
        have h1 : (kvs.map (·.1))[j]? = some k := by rw [List.getElem?_map, hk]; rfl
        rw [I.kd.ks, List.getElem?_map] at h1
        cases hz2 : (("" : Str) :: ns.take i)[j]? with
        | none => rw [hz2] at h1; cases h1
        | some n => rw [hz2] at h1; cases h1; exact ⟨rfl, n, rfl, rfl⟩
      · intro j n H3 Qn Qf hj s3 k1 k2
        obtain ⟨v, hv⟩ := I.di n (List.mem_of_getElem? hj)
        have g := DGet.k (k := kS n) (s3 _ _ hpp7)
        rw [hv] at g
        refine ⟨rfl, _, rfl, _, rfl, _, _, rfl, g, _, rfl, _, _, rfl, rfl, _, rfl, ?_⟩
        refine ifB (fun h => ?_) (fun h => ?_)
        · exact ⟨_, rfl, k1 H3 (Same.refl _) (by rw [hv]; exact h)⟩
        · exact k2 H3 (Same.refl _) (by rw [hv]; exact h)
      · intro H3 s3 hl3
        refine ⟨s3 _ _ e7, ?_⟩
        have e8 := s3 _ _ e7
        generalize hsome : ((("" : Str) :: ns.take i).filter fun n => match valV dvs (kS n) with
          | some (.int v) => decide (v < (t : Int))
          | _ => false) = some_ at hl3
        have hne : ("" : Str) ∈ some_ := by
          rw [← hsome, List.mem_filter]
          refine ⟨List.mem_cons_self, ?_⟩
          rw [I.d0]
          exact decide_eq_true (by omega)
        have hsub : ∀ n ∈ some_, n ∈ ("" : Str) :: ns.take i := fun n hn => by rw [← hsome] at hn; exact (List.mem_filter.mp hn).1
        have hsl : some_.length ≤ 201 := by
          rw [← hsome]
          have := List.length_filter_le (fun n => match valV dvs (kS n) with
            | some (.int v) => decide (v < (t : Int))
            | _ => false) (("" : Str) :: ns.take i)
          rw [List.length_cons] at this
          omega
        generalize hE_H5 : upd H3 pd _ = H5
        have e9 := (congrFun hE_H5 pd).symm.trans upd_same
        have n9 : ∀ q_, q_ ≠ pd → H5 q_ = H3 q_ := by subst hE_H5; exact fun q_ h => upd_ne h
        have k9 : Kp H3 H5 := by subst hE_H5; exact Kp.mut e8 (fun z => z)
        have m9 : ∀ H0, Same H0 H3 → H0 pd = none → Same H0 H5 := by subst hE_H5; exact fun _ s h => same_mut s h
        clear hE_H5
        have s25 : Same H2 H5 := fun b o e => by
          by_cases c : b = pd
          · subst c; rw [hk2] at e; cases e; exact e9
          · exact (n9 b c).trans (s3 _ _ ((n7 b c).trans e))
        have I5 := I.go (SameD.of s25) (I.dk.same s25)
        have hDd := I.dk.ne hD2
        have hl5 := (n9 D nDp).trans hl3
        have hs1 : 1 ≤ some_.length := List.length_pos_of_mem hne
        refine ⟨_, rfl, _, rfl, _, rfl, _, some_.length, rfl, .inl ⟨_, .inl (.inl hl5), by rw [List.length_map]⟩, d, _, rfl, I5.dk, by omega, by omega, fun r H6 hr s6 d6 => ?_⟩
        have hr2 : r < some_.length := by omega
        refine ⟨D, _, _, .str some_[r], rfl, rfl, .inl (.inl (s6 _ _ hDd hl5)), atI_nat (by rw [List.getElem?_map, List.getElem?_eq_getElem hr2]; rfl), ?_⟩
        exact ⟨some_[r], _, _, rfl, I5.go s6 d6, hsub _ (List.getElem_mem hr2)⟩
    clear hoL
    rintro σ' H3 ⟨o, u8, u9, rfl, I, hoL⟩
    obtain ⟨b, hbd, hb1, hb2⟩ := I.kd.at_ o hoL
    have g := DGet.k (k := kS o) I.kd.dk
    rw [hb1] at g
    have hCl : (C o).length ≤ 200 := by
      have h1 : (Wd.nms x).length ≤ 200 := by rw [hpm.length_eq]; exact htl
      rcases List.mem_cons.mp hoL with e | h
      · subst e; rw [kin.2]; have := roots_len x; omega
      · exact Nat.le_trans (agree_len kin.1 (hpm.symm.subset h)) h1
    refine ⟨_, rfl, _, rfl, _, _, rfl, g, ?_⟩
    refine ⟨_, rfl, .inl ⟨rfl, _, .inl (.inl hb2)⟩, _, rfl, _, rfl, _, (C o).length, rfl, .inl ⟨_, .inl (.inl hb2), by rw [List.length_map]⟩, _, _, rfl, rfl, d, _, rfl, I.dk, by omega, by omega, fun at_ H4 hat s4 d4 => ?_⟩
    have I4 := I.go s4 d4
    have hb4 := s4 _ _ hbd hb2
    refine ⟨_, rfl, b, _, _, _, rfl, rfl, hb4, by rw [line, List.length_map]; omega, by omega, by omega, ?_⟩
    generalize hE_H5 : upd H4 b _ = H5
    have e7 := (congrFun hE_H5 b).symm.trans upd_same
    have n7 : ∀ q_, q_ ≠ b → H5 q_ = H4 q_ := by subst hE_H5; exact fun q_ h => upd_ne h
    have k7 : Kp H4 H5 := by subst hE_H5; exact Kp.mut hb4 (fun z => z)
    have m7 : ∀ H0, Same H0 H4 → H0 b = none → Same H0 H5 := by subst hE_H5; exact fun _ s h => same_mut s h
    clear hE_H5
    rw [show ((at_ : Nat) : Int).toNat = at_ by omega] at e7
    have nbpd : b ≠ pd := fun z => by subst z; rw [I4.kd.dk] at hb4; cases hb4
    have nbpp : b ≠ pp := fun z => by subst z; rw [I4.dp] at hb4; cases hb4
    have hbH := I.new o b hb1
    have hk5 : H5 pd = some (.dK kvs) := (n7 pd (Ne.symm nbpd)).trans I4.kd.dk
    have hdp5 : H5 pp = some (.dK dvs) := (n7 pp (Ne.symm nbpp)).trans I4.dp
    have dk5 : Deck H5 d := d4.mut hbd n7
    refine ⟨by decide, fun bn hbn => ?_⟩
    have hbnd := dk5.ne hbn
    generalize hE_H6 : upd H5 bn _ = H6
    have e8 := (congrFun hE_H6 bn).symm.trans upd_same
    have n8 : ∀ q_, q_ ≠ bn → H6 q_ = H5 q_ := by subst hE_H6; exact fun q_ h => upd_ne h
    have s8 : Same H5 H6 := by subst hE_H6; exact same_new hbn
    clear hE_H6
    have hk6 := s8 _ _ hk5
    refine ⟨_, rfl, _, rfl, pd, _, rfl, DPut.k (k := kS nm) hk6 (by rw [line]; omega), ?_⟩
    generalize hE_H7 : upd H6 pd _ = H7
    have e9 := (congrFun hE_H7 pd).symm.trans upd_same
    have n9 : ∀ q_, q_ ≠ pd → H7 q_ = H6 q_ := by subst hE_H7; exact fun q_ h => upd_ne h
    have k9 : Kp H6 H7 := by subst hE_H7; exact Kp.mut hk6 (fun z => z)
    have m9 : ∀ H0, Same H0 H6 → H0 pd = none → Same H0 H7 := by subst hE_H7; exact fun _ s h => same_mut s h
    clear hE_H7
    have hdp7 : H7 pp = some (.dK dvs) := (n9 pp hpppd).trans (s8 _ _ hdp5)
    obtain ⟨vo, hvo⟩ := I.di o hoL
    have g7 := DGet.k (k := kS o) hdp7
    rw [hvo] at g7
    refine ⟨_, rfl, _, rfl, _, _, rfl, g7, _, _, rfl, rfl, _, rfl, _, rfl, pp, _, rfl, DPut.k (k := kS nm) hdp7 (by rw [line]; omega), ?_⟩
    generalize hE_H8 : upd H7 pp _ = H8
    have e10 := (congrFun hE_H8 pp).symm.trans upd_same
    have n10 : ∀ q_, q_ ≠ pp → H8 q_ = H7 q_ := by subst hE_H8; exact fun q_ h => upd_ne h
    have k10 : Kp H7 H8 := by subst hE_H8; exact Kp.mut hdp7 (fun z => z)
    have m10 : ∀ H0, Same H0 H7 → H0 pp = none → Same H0 H8 := by subst hE_H8; exact fun _ s h => same_mut s h
    clear hE_H8
    have hno : nm ≠ o := fun z => by
      subst z
      rcases List.mem_cons.mp hoL with e | h
      · exact nm_ne hnmt e
      · exact hnew h
    have hnL : nm ∉ ("" : Str) :: ns.take i := fun h => by
      rcases List.mem_cons.mp h with e | h
      · exact nm_ne hnmt e
      · exact hnew h
    have hvn : valV kvs (kS nm) = none := by
      cases z : valV kvs (kS nm) with
      | none => rfl
      | some v =>
        have h1 := valV_in z
        rw [I.kd.ks] at h1
        obtain ⟨y, hy, e⟩ := List.mem_map.mp h1
        cases e
        exact absurd hy hnL
    have hoN : o = ("" : Str) ∨ o ∈ Wd.nms x := by
      rcases List.mem_cons.mp hoL with e | h
      · exact .inl e
      · exact .inr (hpm.symm.subset h)
    have hxnd : (Wd.nms x).Nodup := hpm.nodup_iff.mpr (List.Nodup.sublist (List.take_sublist i ns) hnd)
    have hE : ("" : Str) ∉ Wd.nms x := fun h => nm_ne (hnm _ (List.mem_of_mem_take (hpm.subset h))) rfl
    obtain ⟨x', kin', hpm'⟩ := grab (C' := upC C nm o [] (slot (C o) nm at_ 0)) (k := at_) (m := 0) kin hE hoN hxnd (fun h => hnew (hpm.subset h)) (nm_ne hnmt) (by omega) (by unfold upC took; rw [if_pos rfl]; simp) (by unfold upC; rw [if_neg (Ne.symm hno), if_pos rfl]) (fun y h1 h2 => by unfold upC; rw [if_neg h1, if_neg h2])
    have hbn4 : H4 bn = none := by
      have nb : bn ≠ b := fun z => by subst z; rw [e7] at hbn; cases hbn
      exact (n7 bn nb).symm.trans hbn
    have hbnH : H bn = none := I4.s.free hd d4 hbn4
    have hbnpd : bn ≠ pd := fun z => by subst z; rw [hk5] at hbn; cases hbn
    have hbnpp : bn ≠ pp := fun z => by subst z; rw [hdp5] at hbn; cases hbn
    have nbbn : b ≠ bn := fun z => by subst z; rw [e7] at hbn; cases hbn
    have s08 : SameD d H H8 := fun c o2 hc e => by
      have z1 : H5 c = some o2 := (n7 c (ne_of_none e hbH)).trans (I4.s c o2 hc e)
      exact (n10 c (ne_of_none e hppH)).trans ((n9 c (ne_of_none e hpd)).trans (s8 _ _ z1))
    have dk8 : Deck H8 d := ((dk5.same s8).mut hpdd n9).mut hppd n10
    refine ⟨_, rfl, _, _, _, _, _, putK kvs (kS nm) (.ref bn), putK dvs (kS nm) _, _, x', nm, rfl, ⟨s08, dk8, ⟨(n10 pd (Ne.symm hpppd)).trans e9, ?_, fun n hn => ?_⟩, ?_, ?_, e10, ?_, fun n hn => ?_, ?_⟩, ?_, kin', ?_⟩
    · rw [putK_new _ hvn, List.map_append, I.kd.ks, htk]
      simp
    · rw [valV_put]
      have hn' : n = nm ∨ n ∈ ("" : Str) :: ns.take i := by
        rw [htk] at hn
        rcases List.mem_cons.mp hn with e | h
        · exact .inr (by rw [e]; exact List.mem_cons_self)
        · rcases List.mem_append.mp h with h | h
          · exact .inr (List.mem_cons_of_mem _ h)
          · exact .inl (List.mem_singleton.mp h)
      by_cases c2 : n = nm
      · subst c2
        refine ⟨bn, hbnd, by rw [if_pos rfl], ?_⟩
        unfold upC
        rw [n10 bn hbnpp, n9 bn hbnpd, e8, if_pos rfl]
        rfl
      · rw [if_neg (fun z => c2 (Sum.inr.inj z))]
        by_cases c1 : n = o
        · subst c1
          refine ⟨b, hbd, hb1, ?_⟩
          unfold upC
          rw [n10 b nbpp, n9 b nbpd, s8 _ _ e7, if_neg (Ne.symm hno), if_pos rfl]
          unfold slot
          simp
        · obtain ⟨b2, h1, h2, h3⟩ := I4.kd.at_ n (hn'.resolve_left c2)
          have nb2 : b2 ≠ pd := fun z => by subst z; rw [I4.kd.dk] at h3; cases h3
          have nb3 : b2 ≠ pp := fun z => by subst z; rw [I4.dp] at h3; cases h3
          have nb4 : b2 ≠ b := fun z => by subst z; exact c1 (I.inj _ _ _ h2 hb1)
          refine ⟨b2, h1, h2, ?_⟩
          unfold upC
          rw [n10 b2 nb3, n9 b2 nb2, if_neg c2, if_neg c1]
          exact s8 _ _ ((n7 b2 nb4).trans h3)
    · intro n m c h1 h2
      rw [valV_put] at h1 h2
      have nob : ∀ n, valV kvs (kS n) = some (.ref c) → c ≠ bn := fun n h z => by
        subst z
        have h1 := valV_in h
        rw [I.kd.ks] at h1
        obtain ⟨y, hy, e⟩ := List.mem_map.mp h1
        cases e
        obtain ⟨b3, _, h4, h5⟩ := I4.kd.at_ n hy
        rw [h] at h4; cases h4
        rw [hbn4] at h5; cases h5
      by_cases c1 : n = nm <;> by_cases c2 : m = nm
      · rw [c1, c2]
      · rw [if_pos (by rw [c1])] at h1; rw [if_neg (fun z => c2 (Sum.inr.inj z))] at h2; cases h1; exact absurd rfl (nob _ h2)
      · rw [if_pos (by rw [c2])] at h2; rw [if_neg (fun z => c1 (Sum.inr.inj z))] at h1; cases h2; exact absurd rfl (nob _ h1)
      · rw [if_neg (fun z => c1 (Sum.inr.inj z))] at h1; rw [if_neg (fun z => c2 (Sum.inr.inj z))] at h2; exact I.inj _ _ _ h1 h2
    · intro n c h
      rw [valV_put] at h
      by_cases c1 : n = nm
      · rw [if_pos (by rw [c1])] at h; cases h; exact hbnH
      · rw [if_neg (fun z => c1 (Sum.inr.inj z))] at h; exact I.new n c h
    · have := putlen dvs (kS nm) (V.int (vo + 1))
      have h2 := I.dl
      rw [htk, List.length_cons, List.length_append, List.length_singleton]
      rw [List.length_cons] at h2
      exact Nat.le_trans this (by omega)
    · rw [valV_put]
      by_cases c2 : n = nm
      · exact ⟨_, by rw [if_pos (by rw [c2])]⟩
      · rw [if_neg (fun z => c2 (Sum.inr.inj z))]
        refine I.di n ?_
        rw [htk] at hn
        rcases List.mem_cons.mp hn with e | h
        · rw [e]; exact List.mem_cons_self
        · rcases List.mem_append.mp h with h | h
          · exact List.mem_cons_of_mem _ h
          · exact absurd (List.mem_singleton.mp h) c2
    · rw [valV_put, if_neg (fun z => nm_ne hnmt (Sum.inr.inj z).symm)]
      exact I.d0
    · rw [htk]; exact List.mem_cons_of_mem _ (List.mem_append_right _ (List.mem_singleton.mpr rfl))
    · rw [htk]
      exact hpm'.trans ((hpm.cons nm).trans (List.perm_append_singleton nm _).symm)
  · rintro σ' H1 ⟨u6, u7, u8, u9, u10, kvs, dvs, C, x, o, rfl, I, hoL, kin, hpm⟩
    have kd := I.kd
    rw [List.take_length] at kd hpm
    have hxl := hpm.length_eq
    have hwd : WdOk x := ⟨hpm.nodup_iff.mpr hnd, fun n hn => hnm n (hpm.subset hn), by omega⟩
    have := dep_le x
    refine ⟨_, rfl, pd, "", (fun n => n ∈ ("" : Str) :: ns), C, x, rfl, kd.kd, List.mem_cons_self, fun m hm => List.mem_cons_of_mem _ (hpm.subset hm), kin.1, kin.2, by omega, by omega, fun p H2 s2 hw => ?_⟩
    exact q p H2 x hw hwd hpm (I.s.trans (SameD.of s2)) (I.dk.same s2)
end
end K76
/-! text W16 -/
set_option Elab.async false
set_option linter.all false
set_option maxRecDepth 100000
set_option maxHeartbeats 4000000
namespace K76
open PySem PySem.Spec PyProof.Rows L2
def spWoodNames (K : PySem.W.Frag) : Sp := fun vs H Q _ => ∃ (d : Addr), vs = [.ref d, .int 0] ∧ Deck H d ∧ ∀ p H' a b x, H' p = some (.lst [.ref a, .ref b]) → WoodAt K H' a x → WdOk x → SameD d H H' → Deck H' d → Q (.ref p) H'
def spSomeWood (K : PySem.W.Frag) : Sp := fun vs H Q _ => ∃ (d : Addr), vs = [.ref d] ∧ Deck H d ∧ ∀ a H' x, WoodAt K H' a x → WdOk x → SameD d H H' → Deck H' d → Q (.ref a) H'
/-- the children's lists of a wood -/
def CK (x : Wd Str) (n : Str) : List Str := kidsL (Wd.prs none x) (if n = "" then none else some n)
theorem CK_kin {x : Wd Str} (ok : WdOk x) : Kin (CK x) "" x := by
  refine ⟨kids_agree x none (CK x) ok.nd (fun _ _ h => nomatch h) (fun n hn => ?_), ?_⟩
  · unfold CK; rw [if_neg (nm_ne (ok.nm n hn))]
  · unfold CK; rw [if_pos rfl]; exact kids_roots x none fun _ _ h => nomatch h
structure KDf (H H' : Hp) (a : Addr) (L : List Str) (C : Str → List Str) (kvs : List (Key × V)) : Prop where
  dk : H' a = some (.dK kvs)
  ks : kvs.map (·.1) = L.map kS
  at_ : ∀ n ∈ L, ∃ b, H b = none ∧ valV kvs (kS n) = some (.ref b) ∧ H' b = some (.lst ((C n).map V.str))
theorem KDf.kdn {H H' : Hp} {d a : Addr} {L : List Str} {C : Str → List Str} {kvs : List (Key × V)} (h : KDf H H' a L C kvs) (hd : Deck H d) : KDn H' d a L C kvs :=
  ⟨h.dk, h.ks, fun n hn => let ⟨b, h1, h2, h3⟩ := h.at_ n hn; ⟨b, hd.ne h1, h2, h3⟩⟩
def spKids (K : PySem.W.Frag) : Sp := fun vs H Q _ => ∃ (a : Addr) (x : Wd Str), vs = [.ref a] ∧ WoodAt K H a x ∧ WdOk x ∧ ∀ p H' kvs ks, H p = none → Same H H' → KDf H H' p ks (CK x) kvs → ks.Perm ("" :: Wd.nms x) → Q (.ref p) H'
def treeN (z : Str × Wd Str) : List Str := z.1 :: Wd.nms z.2
theorem trees_len (zs : List (Str × Wd Str)) : zs.length ≤ (zs.flatMap treeN).length := by
  induction zs with
  | nil => simp
  | cons z zs ih => rw [List.flatMap_cons, List.length_append, List.length_cons, treeN, List.length_cons]; omega
section
variable {P : Program} {w : World} {K : PySem.W.Frag} {mg : Str → Option Value} {base : Heap}
abbrev N_law_wood_and_names : List Str := ["_law_deck_here", "_law_more", "_law_tall", "_law_many", "_law_names_here"]
theorem sc_law_wood_and_names : FnScope N_law_wood_and_names ["_law_deck_here", "_law_more"] (defScope (top 50)) := ⟨rfl, rfl, rfl, by decide +kernel, rfl, by decide +kernel, by decide +kernel⟩
theorem cal_law_wood_and_names (T : Tp K mg) (F : Fnn K mg "_law_wood_and_names" 50)  (c__law_draw : Cal P w K mg base 1 "_law_draw" spDraw) (c__law_names : Cal P w K mg base 3 "_law_names" spNames2) (c__law_tall_wood : Cal P w K mg base 203 "_law_tall_wood" (spTall K)) (c__law_wood : Cal P w K mg base 203 "_law_wood" (spWood K)) : Cal P w K mg base 204 "_law_wood_and_names" (spWoodNames K) := by
  have nd := sc_law_wood_and_names.nd
  refine cal F (fun _ _ _ _ _ _ us hl => match us, hl with | [_, _], _ => rfl) sc_law_wood_and_names (fun vs H Q E h => by obtain ⟨d, rfl, hd, q⟩ := h; rfl) (fun f cdv A outer s H vs Q E hr h => ?_)
  have hu := hu_of hr
  refine ⟨_, (pss_cons (ps_if (pt_cmpR op_eq (pe_cc c__law_draw hr (by decide) (by rfl) (pa_cons (pv 0) (pa_cons pe_int pa_nil))) pe_int (nomark _)) (pss_cons (ps_set (i := 2) nd rfl (.inl rfl) (pe_op op_add pe_int (pe_cc c__law_draw hr (by decide) (by rfl) (pa_cons (pv 0) (pa_cons pe_int pa_nil)))))
      (pss_cons (ps_set (i := 3) nd rfl (.inl rfl) (pe_op op_add (pv 2) (pe_cc c__law_draw hr (by decide) (by rfl) (pa_cons (pv 0) (pa_cons (pe_op op_sub pe_int (pv 2)) pa_nil)))))
      (pss_cons (ps_set (i := 4) nd rfl (.inl rfl) (pe_cc c__law_names hr (by decide) (by rfl) (pa_cons (pv 0) (pa_cons (pe_op op_add (pv 3) (pv 1)) pa_nil))))
      (pss_one (ps_ret (pe_lst (pa_cons (pe_cc c__law_tall_wood hr (by decide) (by rfl) (pa_cons (pv 0) (pa_cons (pe_slice sl_list (pv 4) po_none (po_some (pv 3))) (pa_cons (pv 2) pa_nil)))) (pa_cons (pe_slice sl_list (pv 4) (po_some (pv 3)) po_none) pa_nil)))))))) pss_nil)
      (pss_cons (ps_set (i := 3) nd rfl (.inl rfl) (pe_cc c__law_draw hr (by decide) (by rfl) (pa_cons (pv 0) (pa_cons pe_int pa_nil))))
      (pss_cons (ps_set (i := 4) nd rfl (.inl rfl) (pe_cc c__law_names hr (by decide) (by rfl) (pa_cons (pv 0) (pa_cons (pe_op op_add (pv 3) (pv 1)) pa_nil))))
      (pss_one (ps_ret (pe_lst (pa_cons (pe_cc c__law_wood hr (by decide) (by rfl) (pa_cons (pv 0) (pa_cons (pe_slice sl_list (pv 4) po_none (po_some (pv 3))) pa_nil))) (pa_cons (pe_slice sl_list (pv 4) (po_some (pv 3)) po_none) pa_nil)))))))), ?_⟩
  obtain ⟨d, rfl, hd, q⟩ := h
  refine ⟨_, rfl, d, 8, rfl, hd, by decide, by decide, fun r0 H1 hr0 s1 d1 => ⟨rfl, _, rfl, ?_⟩⟩
  refine ifB (fun _ => ?_) (fun _ => ?_)
  · refine ⟨_, rfl, d, 40, rfl, d1, by decide, by decide, fun r1 H2 hr1 s2 d2 => ⟨_, _, rfl, rfl, ?_⟩⟩
    refine ⟨_, rfl, _, rfl, _, rfl, _, _, rfl, rfl, d, _, rfl, d2, by omega, by omega, fun r2 H3 hr2 s3 d3 => ⟨_, _, rfl, rfl, ?_⟩⟩
    refine ⟨_, rfl, _, rfl, _, rfl, _, _, rfl, rfl, d, 1 + r1 + r2, ?_, d3, by omega, fun p H4 ns np hp hnl hnd hnm s4 d4 => ?_⟩
    · show [V.ref d, V.int ((1 : Int) + (r1 : Int) + (r2 : Int) + 0)] = _
      rw [show ((1 : Int) + (r1 : Int) + (r2 : Int) + 0) = ((1 + r1 + r2 : Nat) : Int) by omega]
    have npd := d3.ne np
    refine ⟨_, rfl, _, rfl, _, rfl, _, rfl, p, _, rfl, .inl (.inl hp), fun p2 hp2 => ?_⟩
    generalize hE_H5 : upd H4 p2 _ = H5
    have e5 := (congrFun hE_H5 p2).symm.trans upd_same
    have n5 : ∀ q_, q_ ≠ p2 → H5 q_ = H4 q_ := by subst hE_H5; exact fun q_ h => upd_ne h
    have s5 : Same H4 H5 := by subst hE_H5; exact same_new hp2
    clear hE_H5
    have e5 : H5 p2 = some (.lst (cutV (ns.map V.str) none (some ((1 : Int) + (r1 : Int) + (r2 : Int))))) := e5
    rw [show ((1 : Int) + (r1 : Int) + (r2 : Int)) = ((1 + r1 + r2 : Nat) : Int) by omega, cut_front ns (by omega), List.take_of_length_le (by omega)] at e5
    have d5 := d4.same s5
    refine ⟨_, rfl, d, p2, ns, 1 + r1, ?_, d5, d4.ne hp2, .inl (.inl e5), hnd, hnm, by omega, by omega, fun a H6 x hw ok hpm s6 d6 => ?_⟩
    · show [V.ref d, V.ref p2, V.int ((1 : Int) + (r1 : Int))] = _
      rw [show ((1 : Int) + (r1 : Int)) = ((1 + r1 : Nat) : Int) by omega]
    refine ⟨_, rfl, _, rfl, _, rfl, p, _, rfl, .inl (.inl (s6 _ _ npd (s5 _ _ hp))), fun p3 hp3 => ?_⟩
    generalize hE_H7 : upd H6 p3 _ = H7
    have e7 := (congrFun hE_H7 p3).symm.trans upd_same
    have n7 : ∀ q_, q_ ≠ p3 → H7 q_ = H6 q_ := by subst hE_H7; exact fun q_ h => upd_ne h
    have s7 : Same H6 H7 := by subst hE_H7; exact same_new hp3
    clear hE_H7
    refine ⟨by show 2 ≤ sizeLine; decide, fun p4 hp4 => ?_⟩
    generalize hE_H8 : upd H7 p4 _ = H8
    have e8 := (congrFun hE_H8 p4).symm.trans upd_same
    have n8 : ∀ q_, q_ ≠ p4 → H8 q_ = H7 q_ := by subst hE_H8; exact fun q_ h => upd_ne h
    have s8 : Same H7 H8 := by subst hE_H8; exact same_new hp4
    clear hE_H8
    have s78 := s7.trans s8
    exact q p4 H8 a p3 x e8 (hw.same (Kp.of s78)) ok ((((((s1.trans s2).trans s3).trans s4).trans (SameD.of s5)).trans s6).trans (SameD.of s78)) (d6.same s78)
  · refine ⟨_, rfl, d, 13, rfl, d1, by decide, by decide, fun r2 H3 hr2 s3 d3 => ?_⟩
    refine ⟨_, rfl, _, rfl, _, rfl, _, _, rfl, rfl, d, r2, ?_, d3, by omega, fun p H4 ns np hp hnl hnd hnm s4 d4 => ?_⟩
    · show [V.ref d, V.int ((r2 : Int) + 0)] = _
      rw [Int.add_zero]
    have npd := d3.ne np
    refine ⟨_, rfl, _, rfl, _, rfl, _, rfl, p, _, rfl, .inl (.inl hp), fun p2 hp2 => ?_⟩
    generalize hE_H5 : upd H4 p2 _ = H5
    have e5 := (congrFun hE_H5 p2).symm.trans upd_same
    have n5 : ∀ q_, q_ ≠ p2 → H5 q_ = H4 q_ := by subst hE_H5; exact fun q_ h => upd_ne h
    have s5 : Same H4 H5 := by subst hE_H5; exact same_new hp2
    clear hE_H5
    rw [cut_front ns (by omega), List.take_of_length_le (by omega)] at e5
    have d5 := d4.same s5
    refine ⟨d, p2, ns, rfl, d5, d4.ne hp2, .inl (.inl e5), hnd, hnm, by omega, fun a H6 x hw ok hpm s6 d6 => ?_⟩
    refine ⟨_, rfl, _, rfl, _, rfl, p, _, rfl, .inl (.inl (s6 _ _ npd (s5 _ _ hp))), fun p3 hp3 => ?_⟩
    generalize hE_H7 : upd H6 p3 _ = H7
    have e7 := (congrFun hE_H7 p3).symm.trans upd_same
    have n7 : ∀ q_, q_ ≠ p3 → H7 q_ = H6 q_ := by subst hE_H7; exact fun q_ h => upd_ne h
    have s7 : Same H6 H7 := by subst hE_H7; exact same_new hp3
    clear hE_H7
    refine ⟨by show 2 ≤ sizeLine; decide, fun p4 hp4 => ?_⟩
    generalize hE_H8 : upd H7 p4 _ = H8
    have e8 := (congrFun hE_H8 p4).symm.trans upd_same
    have n8 : ∀ q_, q_ ≠ p4 → H8 q_ = H7 q_ := by subst hE_H8; exact fun q_ h => upd_ne h
    have s8 : Same H7 H8 := by subst hE_H8; exact same_new hp4
    clear hE_H8
    have s78 := s7.trans s8
    exact q p4 H8 a p3 x e8 (hw.same (Kp.of s78)) ok (((((s1.trans s3).trans s4).trans (SameD.of s5)).trans s6).trans (SameD.of s78)) (d6.same s78)
abbrev N_law_some_wood : List Str := ["_law_deck_here"]
theorem sc_law_some_wood : FnScope N_law_some_wood ["_law_deck_here"] (defScope (top 51)) := ⟨rfl, rfl, rfl, by decide +kernel, rfl, by decide +kernel, by decide +kernel⟩
theorem cal_law_some_wood (T : Tp K mg) (F : Fnn K mg "_law_some_wood" 51)  (c__law_wood_and_names : Cal P w K mg base 204 "_law_wood_and_names" (spWoodNames K)) : Cal P w K mg base 205 "_law_some_wood" (spSomeWood K) := by
  have nd := sc_law_some_wood.nd
  refine cal F (fun _ _ _ _ _ _ us hl => match us, hl with | [_], _ => rfl) sc_law_some_wood (fun vs H Q E h => by obtain ⟨d, rfl, hd, q⟩ := h; rfl) (fun f cdv A outer s H vs Q E hr h => ?_)
  have hu := hu_of hr
  refine ⟨_, (pss_one (ps_ret (pe_ix ix_list (pe_cc c__law_wood_and_names hr (by decide) (by rfl) (pa_cons (pv 0) (pa_cons pe_int pa_nil))) pe_int (fun _ _ => rfl)))), ?_⟩
  obtain ⟨d, rfl, hd, q⟩ := h
  exact ⟨_, rfl, d, rfl, hd, fun p H1 a b x hp hw ok s1 d1 => ⟨p, _, _, .ref a, rfl, rfl, .inl (.inl hp), rfl, q a H1 x hw ok s1 d1⟩⟩
abbrev N_law_kids : List Str := ["_law_wood_here", "_law_kids_here", "_law_tree", "_law_waiting", "_law_name_here", "_law_inside"]
theorem sc_law_kids : FnScope N_law_kids ["_law_wood_here"] (defScope (top 52)) := ⟨rfl, rfl, rfl, by decide +kernel, rfl, by decide +kernel, by decide +kernel⟩
theorem cal_law_kids (T : Tp K mg) (F : Fnn K mg "_law_kids" 52)   : Cal P w K mg base 1 "_law_kids" (spKids K) := by
  have nd := sc_law_kids.nd
  refine cal F (fun _ _ _ _ _ _ us hl => match us, hl with | [_], _ => rfl) sc_law_kids (fun vs H Q E h => by obtain ⟨a, x, rfl, ⟨xs, hx, ht⟩, ok, q⟩ := h; rfl) (fun f cdv A outer s H vs Q E hr h => ?_)
  have hu := hu_of hr
  refine ⟨_, (pss_cons (ps_set (i := 1) nd rfl (.inl rfl) (pe_disp (pps_cons pe_str (pe_lc (own := [("_law_tree", 2)]) rfl nd (pi_tup (pv 0)) (blkOk_by (own := [("_law_tree", 2)]) (N := N_law_kids) (sc := defScope (top 52)) (by decide +kernel)) (fun _ _ _ _ _ => (pg_name (i := 2) nd rfl (.inl rfl))) (fun _ _ _ _ _ => pts_nil) (fun _ _ _ _ _ => (pe_ix (ix_tupK (K := K) rfl) (pv 2) pe_int (fun _ _ => rfl)))) pps_nil) (by rfl) (by rfl) (fun z => by cases z) (by decide)))
      (pss_cons (ps_set (i := 3) nd rfl (.inl rfl) (pe_callTy call_list_of (by rfl) T.b_list (by decide +kernel) (pa_cons (pv 0) pa_nil)))
      (pss_cons (ps_while PassesOwn.never (pt_cmpR (op_ne0 hr.units0) (pv 3) (pe_lst pa_nil) (nomark _)) (pss_cons (ps_asg (pe_bm0 PySem.F.plainAttrs_list PySem.F.slot_list_pop PySem.F.type_list_pop mt_pop (pv 3)) (pg_tup rfl (pgs_cons (pg_name (i := 4) nd rfl (.inl rfl)) (pgs_cons (pg_name (i := 5) nd rfl (.inl rfl)) pgs_nil))))
      (pss_cons (ps_dput hu (pv 1) (pv 4) (pe_lc (own := [("_law_tree", 2)]) rfl nd (pi_tup (pv 5)) (blkOk_by (own := [("_law_tree", 2)]) (N := N_law_kids) (sc := defScope (top 52)) (by decide +kernel)) (fun _ _ _ _ _ => (pg_name (i := 2) nd rfl (.inl rfl))) (fun _ _ _ _ _ => pts_nil) (fun _ _ _ _ _ => (pe_ix (ix_tupK (K := K) rfl) (pv 2) pe_int (fun _ _ => rfl)))) rfl)
      (pss_one (ps_expr (pe_bm PySem.F.plainAttrs_list PySem.F.slot_list_extend PySem.F.type_list_extend mt_extT (pv 3) (pa_cons (pv 5) pa_nil)))))))
      (pss_one (ps_ret (pv 1)))))), ?_⟩
  obtain ⟨a, x, rfl, ⟨xs, hx, ht⟩, ok, q⟩ := h
  have hC := CK_kin ok
  have hlen := ok.len
  have htl : (trs x).length ≤ 200 := by
    have h1 := roots_len x
    rw [← trs_names, List.length_map] at h1
    omega
  intro pd hpd
  generalize hE_Ha : upd H pd _ = Ha
  have e1 := (congrFun hE_Ha pd).symm.trans upd_same
  have n1 : ∀ q_, q_ ≠ pd → Ha q_ = H q_ := by subst hE_Ha; exact fun q_ h => upd_ne h
  have s1 : Same H Ha := by subst hE_Ha; exact same_new hpd
  clear hE_Ha
  refine ⟨_, rfl, a, rfl, ⟨_, sameT s1 hx⟩, fun D hD => ?_⟩
  refine lc_rel (H1 := Ha) (trs x) (fun z H v => TreeAt K H v z) (fun H v z => v = .str z.1) (fun _ _ _ _ s h => h) (fun _ => true) (walk_tup (K := K) (a := a) (xs := xs)) ht.al.len ?_ hD (by omega) (fun H s => sameT (s1.trans s) hx) ?_ ?_
  · rintro i H1 v H2 sm ⟨rfl, hv⟩
    obtain ⟨z, hz, ht2⟩ := ht.al.get hv
    exact ⟨rfl, z, hz, ht2.same (Kp.of (s1.trans sm))⟩
  · rintro i z v H2 Qn Qf hi ⟨t, b, rfl, h1, h2⟩ sm k1 k2
    exact ⟨rfl, _, rfl, t, _, _, _, rfl, rfl, h1, rfl, k1 H2 _ (Same.refl _) rfl rfl⟩
  intro Hb ys s2 hys hal
  rw [flt_all] at hal
  have hyv : ys = (Wd.roots x).map V.str := by rw [← trs_names]; exact al_strs hal
  rw [hyv] at hys
  refine ⟨s2 _ _ e1, [(kS "", .ref D)], rfl, by show 1 ≤ 15; decide, ?_⟩
  have e1' := s2 _ _ e1
  generalize hE_Hc : upd Hb pd _ = Hc
  have e3 := (congrFun hE_Hc pd).symm.trans upd_same
  have n3 : ∀ q_, q_ ≠ pd → Hc q_ = Hb q_ := by subst hE_Hc; exact fun q_ h => upd_ne h
  have k3 : Kp Hb Hc := by subst hE_Hc; exact Kp.mut e1' (fun z => z)
  have m3 : ∀ H0, Same H0 Hb → H0 pd = none → Same H0 Hc := by subst hE_Hc; exact fun _ s h => same_mut s h
  clear hE_Hc
  have hDH : H D = none := s1.free hD
  have nDp : D ≠ pd := fun z => by subst z; rw [e1] at hD; cases hD
  have s0c : Same H Hc := m3 H (s1.trans s2) hpd
  refine ⟨_, rfl, a, xs, rfl, .inr (sameT s0c hx), fun pw hpw => ?_⟩
  generalize hE_Hd : upd Hc pw _ = Hd
  have e4 := (congrFun hE_Hd pw).symm.trans upd_same
  have n4 : ∀ q_, q_ ≠ pw → Hd q_ = Hc q_ := by subst hE_Hd; exact fun q_ h => upd_ne h
  have s4 : Same Hc Hd := by subst hE_Hd; exact same_new hpw
  clear hE_Hd
  have hpwH : H pw = none := s0c.free hpw
  have npp : pw ≠ pd := fun z => by subst z; rw [e3] at hpw; cases hpw
  refine ⟨fun m σ' H' => ∃ (u2 u4 u5 : Option V) (zs : List (Str × Wd Str)) (ws : List V) (kvs : List (Key × V)) (ps : List Str), σ' = [some (.ref a), some (.ref pd), u2, some (.ref pw), u4, u5] ∧ Same H H' ∧ H' pw = some (.lst ws) ∧ Al (TreeAt K H') ws zs.reverse ∧
    KDf H H' pd (("" : Str) :: ps) (CK x) kvs ∧ (ps ++ zs.flatMap treeN).Perm (Wd.nms x) ∧ (∀ z ∈ zs, Agree (CK x) z.2 ∧ CK x z.1 = Wd.roots z.2) ∧ (∀ n b, valV kvs (kS n) = some (.ref b) → b ≠ pw) ∧ m = (zs.flatMap treeN).length,
    ⟨_, _, _, _, (trs x).reverse, xs, _, [], rfl, s0c.trans s4, e4, ?_, ⟨s4 _ _ e3, rfl, fun n hn => ⟨D, hDH, ?_, ?_⟩⟩, ?_, ?_, ?_, rfl⟩, ?_⟩
  · rw [List.reverse_reverse]
    exact ht.al.mono fun _ _ h => h.same (Kp.of (s0c.trans s4))
  · have : n = "" := by simpa using hn
    subst this; rfl
  · have : n = "" := by simpa using hn
    subst this
    rw [hC.2]
    exact s4 _ _ ((n3 D nDp).trans hys)
  · show (((trs x).reverse).flatMap treeN).Perm _
    have h1 : ((trs x).flatMap treeN) = Wd.nms x := trs_nms x
    rw [← h1]
    exact List.Perm.flatMap_right _ (List.reverse_perm _)
  · intro z hz
    obtain ⟨_, _, h3, h4, _⟩ := trs_mem (List.mem_reverse.mp hz) hC.1
    exact ⟨h3, h4⟩
  · intro n b h
    have h : valV [(kS "", V.ref D)] (kS n) = some (.ref b) := h
    by_cases c : kS "" = kS n
    · rw [valV_pos c] at h
      cases h
      intro z
      subst z
      rw [(n3 D nDp).trans hys] at hpw
      cases hpw
    · rw [valV_neg c] at h; cases h
  rintro m σ' H' ⟨u2, u4, u5, zs, ws, kvs, ps, rfl, sm, hw, hal, kd, hpm, hag, hbw, rfl⟩
  have hll : ps.length + (zs.flatMap treeN).length ≤ 200 := by
    have := hpm.length_eq
    rw [List.length_append] at this
    omega
  refine ⟨_, rfl, by decide, fun p3 hp3 => ?_⟩
  generalize hE_H3 : upd H' p3 _ = H3
  have e5 := (congrFun hE_H3 p3).symm.trans upd_same
  have n5 : ∀ q_, q_ ≠ p3 → H3 q_ = H' q_ := by subst hE_H3; exact fun q_ h => upd_ne h
  have s5 : Same H' H3 := by subst hE_H3; exact same_new hp3
  clear hE_H3
  refine ⟨pw, p3, ws, rfl, rfl, .inl ⟨.inl (.inl (s5 _ _ hw)), .inl (.inl e5)⟩, _, rfl, ?_⟩
  have kd3 : KDf H H3 pd (("" : Str) :: ps) (CK x) kvs := ⟨s5 _ _ kd.dk, kd.ks, fun n hn => let ⟨b, h1, h2, h3⟩ := kd.at_ n hn; ⟨b, h1, h2, s5 _ _ h3⟩⟩
  match zs, ws, hal with
  | [], [], _ =>
    refine ⟨_, rfl, q pd H3 kvs (("" : Str) :: ps) hpd (sm.trans s5) kd3 (List.Perm.cons _ ?_)⟩
    simpa using hpm
  | [], _ :: _, h => exact h.elim
  | z :: zs, ws, hal =>
    rw [List.reverse_cons] at hal
    obtain ⟨ws', v, rfl, hal2, hv⟩ := al_snoc hal
    obtain ⟨n, i⟩ := z
    refine ifE true (by simp) ⟨fun σ' H' => ∃ m', m' < (((n, i) :: zs).flatMap treeN).length ∧ _, fun _ _ h => h, ?_⟩
    have hw3 := s5 _ _ hw
    refine ⟨_, rfl, .inl ⟨rfl, _, .inl (.inl hw3)⟩, pw, _, v, rfl, rfl, hw3, by simp, ?_⟩
    rw [List.dropLast_concat]
    generalize hE_H4 : upd H3 pw _ = H4
    have e6 := (congrFun hE_H4 pw).symm.trans upd_same
    have n6 : ∀ q_, q_ ≠ pw → H4 q_ = H3 q_ := by subst hE_H4; exact fun q_ h => upd_ne h
    have k6 : Kp H3 H4 := by subst hE_H4; exact Kp.mut hw3 (fun z => z)
    have m6 : ∀ H0, Same H0 H3 → H0 pw = none → Same H0 H4 := by subst hE_H4; exact fun _ s h => same_mut s h
    clear hE_H4
    have kk : Kp H' H4 := (Kp.of s5).trans k6
    have sm4 : Same H H4 := m6 H (sm.trans s5) hpwH
    obtain ⟨t, b, rfl, ht4, ⟨bs, hb, hbt⟩⟩ := TreeAt.same kk hv
    have hdk4 : H4 pd = some (.dK kvs) := (n6 pd (Ne.symm npp)).trans kd3.dk
    refine ⟨t, _, rfl, ht4, rfl, _, _, rfl, _, _, rfl, rfl, ?_⟩
    obtain ⟨ag, hroots⟩ := hag (n, i) List.mem_cons_self
    have hfl : ((n, i) :: zs).flatMap treeN = n :: (Wd.nms i ++ zs.flatMap treeN) := by rw [List.flatMap_cons]; rfl
    rw [hfl] at hll hpm ⊢
    rw [List.length_cons, List.length_append] at hll
    have hil : (trs i).length ≤ 200 := by
      have h1 := roots_len i
      rw [← trs_names, List.length_map] at h1
      omega
    refine ⟨_, rfl, b, rfl, ⟨_, hb⟩, fun D2 hD2 => ?_⟩
    refine lc_rel (H1 := H4) (trs i) (fun z H v => TreeAt K H v z) (fun H v z => v = .str z.1) (fun _ _ _ _ s h => h) (fun _ => true) (walk_tup (K := K) (a := b) (xs := bs)) hbt.al.len ?_ hD2 (by omega) (fun H s => sameT s hb) ?_ ?_
    · rintro i H1 v H2 sm ⟨rfl, hv⟩
      obtain ⟨z, hz, ht2⟩ := hbt.al.get hv
      exact ⟨rfl, z, hz, ht2.same (Kp.of sm)⟩
    · rintro i z v H2 Qn Qf hi ⟨t, b, rfl, h1, h2⟩ sm k1 k2
      exact ⟨rfl, _, rfl, t, _, _, _, rfl, rfl, h1, rfl, k1 H2 _ (Same.refl _) rfl rfl⟩
    intro H5 ys s7 hys haly
    rw [flt_all] at haly
    have hyv : ys = (Wd.roots i).map V.str := by rw [← trs_names]; exact al_strs haly
    rw [hyv] at hys
    have hdk5 := s7 _ _ hdk4
    have hkl : kvs.length ≤ 201 := by
      have := congrArg List.length kd.ks
      rw [List.length_map, List.length_map, List.length_cons] at this
      omega
    refine ⟨_, rfl, _, rfl, pd, _, rfl, DPut.k (k := kS n) hdk5 (by rw [line]; omega), ?_⟩
    generalize hE_H6 : upd H5 pd _ = H6
    have e8 := (congrFun hE_H6 pd).symm.trans upd_same
    have n8 : ∀ q_, q_ ≠ pd → H6 q_ = H5 q_ := by subst hE_H6; exact fun q_ h => upd_ne h
    have k8 : Kp H5 H6 := by subst hE_H6; exact Kp.mut hdk5 (fun z => z)
    have m8 : ∀ H0, Same H0 H5 → H0 pd = none → Same H0 H6 := by subst hE_H6; exact fun _ s h => same_mut s h
    clear hE_H6
    have hw6 : H6 pw = some (.lst ws') := (n8 pw npp).trans (s7 _ _ e6)
    refine ⟨_, rfl, .inl ⟨rfl, _, .inl (.inl hw6)⟩, _, rfl, pw, b, _, _, rfl, rfl, hw6, k8.T (sameT s7 hb), ?_, ?_⟩
    · have h1 : ws'.length = zs.length := by rw [hal2.len, List.length_reverse]
      have h2 := trees_len zs
      have h3 : bs.length = (trs i).length := hbt.al.len
      rw [line]; omega
    generalize hE_H7 : upd H6 pw _ = H7
    have e9 := (congrFun hE_H7 pw).symm.trans upd_same
    have n9 : ∀ q_, q_ ≠ pw → H7 q_ = H6 q_ := by subst hE_H7; exact fun q_ h => upd_ne h
    have k9 : Kp H6 H7 := by subst hE_H7; exact Kp.mut hw6 (fun z => z)
    have m9 : ∀ H0, Same H0 H6 → H0 pw = none → Same H0 H7 := by subst hE_H7; exact fun _ s h => same_mut s h
    clear hE_H7
    have k57 : Kp H4 H7 := ((Kp.of s7).trans k8).trans k9
    have hD2H : H D2 = none := sm4.free hD2
    have nD2p : D2 ≠ pd := fun z => by subst z; rw [hdk4] at hD2; cases hD2
    have nD2w : D2 ≠ pw := fun z => by subst z; rw [e6] at hD2; cases hD2
    have hnps : n ∉ ps := fun h => by
      have nd := hpm.nodup_iff.mpr ok.nd
      rw [List.nodup_append] at nd
      exact nd.2.2 n h n List.mem_cons_self rfl
    have hne : n ≠ "" := nm_ne (ok.nm n (hpm.subset (List.mem_append_right _ List.mem_cons_self)))
    have hvn : valV kvs (kS n) = none := by
      cases z : valV kvs (kS n) with
      | none => rfl
      | some v =>
        have h1 := valV_in z
        rw [kd.ks] at h1
        obtain ⟨y, hy, e⟩ := List.mem_map.mp h1
        cases e
        rcases List.mem_cons.mp hy with e | h
        · exact absurd e hne
        · exact absurd h hnps
    refine ⟨(((trs i).reverse ++ zs).flatMap treeN).length, ?_, _, _, _, (trs i).reverse ++ zs, _, putK kvs (kS n) (.ref D2), ps ++ [n], rfl, m9 H (m8 H (sm4.trans s7) hpd) hpwH, e9, ?_, ⟨(n9 pd (Ne.symm npp)).trans e8, ?_, fun n2 hn2 => ?_⟩, ?_, ?_, ?_, rfl⟩
    · rw [List.flatMap_append, List.length_append, rev_len, show (trs i).flatMap treeN = Wd.nms i from trs_nms i, List.length_cons, List.length_append]; omega
    · rw [List.reverse_append, List.reverse_reverse]
      exact (hal2.mono fun _ _ h => TreeAt.same (kk.trans k57) h).app (hbt.al.mono fun _ _ h => TreeAt.same k57 h)
    · rw [putK_new _ hvn, List.map_append, kd.ks]; simp
    · rw [valV_put]
      by_cases c : n2 = n
      · subst c
        refine ⟨D2, hD2H, by rw [if_pos rfl], ?_⟩
        rw [hroots]
        exact (n9 D2 nD2w).trans ((n8 D2 nD2p).trans hys)
      · rw [if_neg (fun z => c (Sum.inr.inj z))]
        have hn3 : n2 ∈ ("" : Str) :: ps := by
          rcases List.mem_cons.mp hn2 with e | h
          · rw [e]; exact List.mem_cons_self
          · rcases List.mem_append.mp h with h | h
            · exact List.mem_cons_of_mem _ h
            · exact absurd (List.mem_singleton.mp h) c
        obtain ⟨b2, h1, h2, h3⟩ := kd3.at_ n2 hn3
        have nb1 : b2 ≠ pd := fun z => by subst z; rw [kd3.dk] at h3; cases h3
        refine ⟨b2, h1, h2, ?_⟩
        have nb2 := hbw n2 b2 h2
        exact (n9 b2 nb2).trans ((n8 b2 nb1).trans (s7 _ _ ((n6 b2 nb2).trans h3)))
    · rw [List.flatMap_append]
      refine List.Perm.trans ?_ hpm
      rw [List.append_assoc]
      refine List.Perm.append_left _ ?_
      show (n :: (((trs i).reverse).flatMap treeN ++ zs.flatMap treeN)).Perm _
      refine List.Perm.cons _ (List.Perm.append_right _ ?_)
      have h1 : ((trs i).flatMap treeN) = Wd.nms i := trs_nms i
      rw [← h1]
      exact List.Perm.flatMap_right _ (List.reverse_perm _)
    · intro z hz
      rcases List.mem_append.mp hz with h | h
      · obtain ⟨_, _, h3, h4, _⟩ := trs_mem (List.mem_reverse.mp h) ag
        exact ⟨h3, h4⟩
      · exact hag z (List.mem_cons_of_mem _ h)
    · intro n2 b2 h
      rw [valV_put] at h
      by_cases c : n2 = n
      · rw [if_pos (by rw [c])] at h; cases h; exact nD2w
      · rw [if_neg (fun z => c (Sum.inr.inj z))] at h; exact hbw n2 b2 h
end
end K76
/-! text W17 -/
set_option Elab.async false
set_option linter.all false
set_option maxRecDepth 100000
set_option maxHeartbeats 4000000
namespace K76
open PySem PySem.Spec PyProof.Rows L2
/-- a deed's tuple, its third place read only where it is needed -/
structure DeedAt (K : PySem.W.Frag) (H : Hp) (a : Addr) (xs : List V) (d : Mv Str) : Prop where
  t : SqT K H a xs
  x0 : xs[0]? = some (.str (wTxt d.w))
  x1 : xs[1]? = some (.str d.a)
  x2 : needB d.w = true → xs[2]? = some (.str d.b)
theorem mv_deed {K : PySem.W.Frag} {H : Hp} {a : Addr} {d : Mv Str} (h : SqT K H a (mvV d)) : DeedAt K H a (mvV d) d :=
  ⟨h, by unfold mvV mvS; split <;> rfl, by unfold mvV mvS; split <;> rfl, fun hb => by unfold mvV mvS; rw [if_pos hb]; rfl⟩
def spRowMoved (K : PySem.W.Frag) : Sp := fun vs H Q _ => ∃ (r a : Addr) (x : Wd Str) (xs : List V) (d : Mv Str), vs = [.ref r, .ref a] ∧ TX H r (RowV (Wd.row x)) ∧ DeedAt K H a xs d ∧ Shrt d ∧ (Wd.row x).length ≤ 100000 ∧
  (∀ H', mvd (Wd.row x) d = none → Same H H' → Q .non H') ∧ (∀ l p H', mvd (Wd.row x) d = some l → Same H H' → TX H' p (RowV l) → Q (.ref p) H')
def spRowL (K : PySem.W.Frag) (k : Nat) : Sp := fun vs H Q _ => ∃ (a : Addr) (x : Wd Str), vs = [.ref a] ∧ WoodAt K H a x ∧ (∀ n ∈ Wd.nms x, n.length ≤ 100) ∧ (Wd.nms x).length ≤ 1000 ∧ Wd.dep x < k ∧ NewR H (Wd.row x) Q
theorem trs_sub {x : Wd Str} {z : Str × Wd Str} (h : z ∈ trs x) : z.1 ∈ Wd.nms x ∧ (∀ m ∈ Wd.nms z.2, m ∈ Wd.nms x) ∧ Wd.dep z.2 + 1 ≤ Wd.dep x ∧ (Wd.nms z.2).length ≤ (Wd.nms x).length := by
  induction x with
  | nil => cases h
  | cons n i r _ ih =>
    simp only [trs, List.mem_cons] at h
    rcases h with h | h
    · subst h
      refine ⟨by simp [Wd.nms], fun m hm => by simp [Wd.nms]; exact .inr (.inl hm), by simp only [Wd.dep]; omega, by simp only [Wd.nms, List.length_cons, List.length_append]; omega⟩
    · obtain ⟨h1, h2, h5, h6⟩ := ih h
      exact ⟨by simp [Wd.nms]; exact .inr (.inr h1), fun m hm => by simp [Wd.nms]; exact .inr (.inr (h2 m hm)), by simp only [Wd.dep]; omega, by simp only [Wd.nms, List.length_cons, List.length_append]; omega⟩
section
variable {P : Program} {w : World} {K : PySem.W.Frag} {mg : Str → Option Value} {base : Heap}
theorem cal_row0 (F : Fnn K mg "_law_row" 54) : Cal P w K mg base 1 "_law_row" (spRowL K 0) := by
  refine cal F (ps := ["_law_wood_here"]) (N := ["_law_wood_here", "_law_found", "_law_name_here", "_law_inside"]) (fun _ _ _ _ _ _ us hl => match us, hl with | [_], _ => rfl) ⟨rfl, rfl, rfl, by decide +kernel, rfl, by decide +kernel, by decide +kernel⟩ (fun vs H Q E h => ?_) (fun f cdv A outer s H vs Q E hr h => ?_)
  · obtain ⟨_, _, _, _, _, _, h, _⟩ := h; exact absurd h (Nat.not_lt_zero _)
  · obtain ⟨_, _, _, _, _, _, h, _⟩ := h; exact absurd h (Nat.not_lt_zero _)
abbrev N_law_row : List Str := ["_law_wood_here", "_law_found", "_law_name_here", "_law_inside"]
theorem sc_law_row : FnScope N_law_row ["_law_wood_here"] (defScope (top 54)) := ⟨rfl, rfl, rfl, by decide +kernel, rfl, by decide +kernel, by decide +kernel⟩
theorem cal_law_row (T : Tp K mg) (F : Fnn K mg "_law_row" 54) (k : Nat) (c__law_row : Cal P w K mg base (k + 1) "_law_row" (spRowL K k)) : Cal P w K mg base (k + 2) "_law_row" (spRowL K (k + 1)) := by
  have nd := sc_law_row.nd
  refine cal F (fun _ _ _ _ _ _ us hl => match us, hl with | [_], _ => rfl) sc_law_row (fun vs H Q E h => by obtain ⟨a, x, rfl, ⟨xs, hx, ht⟩, hn, hlen, hdep, q⟩ := h; rfl) (fun f cdv A outer s H vs Q E hr h => ?_)
  have hu := hu_of hr
  refine ⟨_, (pss_cons (ps_set (i := 1) nd rfl (.inl rfl) (pe_tupX pa_nil))
      (pss_cons (ps_for PassesOwn.never rfl (pi_tup (pv 0)) (pg_tup rfl (pgs_cons (pg_name (i := 2) nd rfl (.inl rfl)) (pgs_cons (pg_name (i := 3) nd rfl (.inl rfl)) pgs_nil))) (pss_one (ps_set (i := 1) nd rfl (.inl rfl) (pe_op op_catX (pe_op op_catX (pe_op op_catX (pv 1) (pe_tupX (pa_cons (pe_op op_add_str pe_str (pv 2)) pa_nil))) (pe_cc c__law_row hr (Nat.le_refl _) (by rfl) (pa_cons (pv 3) pa_nil))) (pe_tupX (pa_cons (pe_op op_add_str pe_str (pv 2)) pa_nil))))))
      (pss_one (ps_ret (pv 1))))), ?_⟩
  obtain ⟨a, x, rfl, ⟨xs, hx, ht⟩, hn, hlen, hdep, q⟩ := h
  refine ⟨by decide, fun p H1 _ s1 h1 => ?_⟩
  refine ⟨_, rfl, a, rfl, ⟨_, sameT s1 hx⟩, ?_⟩
  have hrl : (Wd.row x).length ≤ 2000 := by rw [row_len]; omega
  refine for_it (walk_tup (K := K) (a := a) (xs := xs)) (fun i σ' H' => ∃ (p : Addr) (u2 u3 : Option V), σ' = [some (.ref a), some (.ref p), u2, u3] ∧ Same H H' ∧ TX H' p (RowV (((trs x).take i).flatMap rowT))) ⟨p, _, _, rfl, s1, h1⟩ ?_ ?_ ?_
  · rintro i σ' H' _ ⟨p, u2, u3, rfl, sm, _⟩
    exact sameT sm hx
  · rintro i v σ' H2 H3 hi ⟨p, u2, u3, rfl, sm, hp⟩ ⟨rfl, hv⟩
    obtain ⟨z, hz, t, b, rfl, h1, h2⟩ := ht.al.get hv
    have hmem := List.mem_of_getElem? hz
    obtain ⟨t1, t2, t3, t4⟩ := trs_sub hmem
    have htk : (trs x).take (i + 1) = (trs x).take i ++ [z] := by rw [List.take_add_one, hz]; rfl
    have hl1 : (((trs x).take (i + 1)).flatMap rowT).length ≤ 2000 := by
      have : (trs x).flatMap rowT = Wd.row x := trs_row x
      rw [← List.take_append_drop (i + 1) (trs x), List.flatMap_append] at this
      have h3 := congrArg List.length this
      rw [List.length_append] at h3
      omega
    rw [htk, List.flatMap_append, List.flatMap_cons, List.flatMap_nil, List.append_nil] at hl1
    have hl2 := hl1
    rw [List.length_append, rowT, List.length_cons, List.length_append, List.length_singleton] at hl2
    have hn1 := hn _ t1
    refine ⟨t, _, rfl, sameT sm h1, rfl, _, _, rfl, _, _, rfl, rfl, ?_⟩
    refine ⟨_, rfl, _, rfl, _, _, rfl, rfl, ?_, by show 1 ≤ sizeLine; decide, fun p4 H4 _ s4 h4 => ?_⟩
    · rw [line]; show 1 + z.1.length ≤ _; omega
    refine ⟨p, p4, _, _, rfl, rfl, hp.same s4, h4, ?_, fun p5 H5 s5 h5 => ?_⟩
    · rw [RowV_len, line]; show _ + 1 ≤ _; omega
    have e1 : RowV (((trs x).take i).flatMap rowT) ++ [V.str (("+" : Str) ++ z.1)] = RowV (((trs x).take i).flatMap rowT ++ [En.op z.1]) := by rw [RowV_cat]; rfl
    rw [e1] at h5
    have s35 := s4.trans s5
    refine ⟨_, rfl, b, z.2, rfl, h2.same (Kp.of (sm.trans s35)), fun n h => hn n (t2 n h), by omega, by omega, fun p6 H6 s6 h6 => ?_⟩
    refine ⟨p5, p6, _, _, rfl, rfl, h5.same s6, h6, ?_, fun p7 H7 s7 h7 => ?_⟩
    · rw [RowV_len, RowV_len, line, List.length_append, List.length_singleton]; omega
    rw [← RowV_cat] at h7
    refine ⟨_, rfl, _, _, rfl, rfl, ?_, by show 1 ≤ sizeLine; decide, fun p8 H8 _ s8 h8 => ?_⟩
    · rw [line]; show 1 + z.1.length ≤ _; omega
    refine ⟨p7, p8, _, _, rfl, rfl, h7.same s8, h8, ?_, fun p9 H9 s9 h9 => ?_⟩
    · rw [RowV_len, line, List.length_append, List.length_append, List.length_singleton]; show _ + 1 ≤ _; omega
    refine ⟨p9, _, _, rfl, ((((sm.trans s35).trans s6).trans s7).trans s8).trans s9, ?_⟩
    rw [htk, List.flatMap_append, List.flatMap_cons, List.flatMap_nil, List.append_nil, RowV_cat]
    have e2 : RowV (((trs x).take i).flatMap rowT ++ [En.op z.1] ++ Wd.row z.2) ++ [V.str (("-" : Str) ++ z.1)] = RowV (((trs x).take i).flatMap rowT) ++ RowV (rowT z) := by
      rw [← RowV_cat, rowT, show [V.str (("-" : Str) ++ z.1)] = RowV [En.cl z.1] from rfl, ← RowV_cat]
      simp
    rw [← e2]
    exact h9
  · rintro σ' H2 ⟨p, u2, u3, rfl, sm, hp⟩
    rw [ht.al.len, List.take_length, show (trs x).flatMap rowT = Wd.row x from trs_row x] at hp
    exact ⟨_, rfl, q p H2 sm hp⟩
theorem cal_rowL (T : Tp K mg) (F : Fnn K mg "_law_row" 54) : ∀ k, Cal P w K mg base (k + 1) "_law_row" (spRowL K k)
  | 0 => cal_row0 F
  | k + 1 => cal_law_row T F k (cal_rowL T F k)
abbrev N_law_row_moved : List Str := ["_law_row_here", "_law_deed", "_law_word", "_law_name_here", "_law_begin", "_law_over", "_law_block", "_law_rest", "_law_at", "_law_end"]
theorem sc_law_row_moved : FnScope N_law_row_moved ["_law_row_here", "_law_deed"] (defScope (top 53)) := ⟨rfl, rfl, rfl, by decide +kernel, rfl, by decide +kernel, by decide +kernel⟩
theorem cal_law_row_moved (T : Tp K mg) (F : Fnn K mg "_law_row_moved" 53)   : Cal P w K mg base 1 "_law_row_moved" (spRowMoved K) := by
  have nd := sc_law_row_moved.nd
  refine cal F (fun _ _ _ _ _ _ us hl => match us, hl with | [_, _], _ => rfl) sc_law_row_moved (fun vs H Q E h => by obtain ⟨r, a, x, xs, d, rfl, hx, hD, hd, hlen, qn, qs⟩ := h; rfl) (fun f cdv A outer s H vs Q E hr h => ?_)
  have hu := hu_of hr
  refine ⟨_, (pss_cons (ps_par (i := 2) (j := 3) rfl nd rfl rfl (by decide) rfl rfl (pa_cons (pe_ix ix_tup (pv 1) pe_int (fun _ _ => rfl)) (pa_cons (pe_ix ix_tup (pv 1) pe_int (fun _ _ => rfl)) pa_nil)) (by rfl))
      (C8.pss_cut (ps_if (pt_cmpR op_notIn_seq (pe_op op_add_str pe_str (pv 3)) (pv 0) rfl) (pss_one (ps_ret pe_non)) pss_nil)
      (pss_cons (ps_set (i := 4) nd rfl (.inl rfl) (pe_tidx mt_tup_index (pv 0) (pe_op op_add_str pe_str (pv 3))))
      (pss_cons (ps_set (i := 5) nd rfl (.inl rfl) (pe_op op_add (pe_tidx mt_tup_index (pv 0) (pe_op op_add_str pe_str (pv 3))) pe_int))
      (pss_cons (ps_set (i := 6) nd rfl (.inl rfl) (pe_slice sl_tupX (pv 0) (po_some (pv 4)) (po_some (pv 5))))
      (pss_cons (ps_set (i := 7) nd rfl (.inl rfl) (pe_op op_catX (pe_slice sl_tupX (pv 0) po_none (po_some (pv 4))) (pe_slice sl_tupX (pv 0) (po_some (pv 5)) po_none)))
      (pss_cons (ps_set (i := 8) nd rfl (.inl rfl) (pe_op op_mul (pe_callB call_len (by rfl) T.b_len (by decide +kernel) (pa_cons (pv 7) pa_nil)) (pe_callTy call_int1 (by rfl) T.b_int (by decide +kernel) (pa_cons (pe_cmpR op_eq (pv 2) pe_str (nomark _)) pa_nil))))
      (C8.pss_cut (ps_if (pt_cmpR op_notIn_seq (pv 2) (pe_tup (pa_cons pe_str (pa_cons pe_str pa_nil))) rfl) (pss_cons (ps_set (i := 9) nd rfl (.inl rfl) (pe_op op_add_str pe_str (pe_ix ix_tup (pv 1) pe_int (fun _ _ => rfl))))
      (C8.pss_cut (ps_if (pt_cmpR op_in_seq (pv 2) (pe_tup (pa_cons pe_str (pa_cons pe_str pa_nil))) rfl) (pss_one (ps_set (i := 9) nd rfl (.inl rfl) (pe_op op_add_str pe_str (pe_ix ix_tup (pv 1) pe_int (fun _ _ => rfl))))) pss_nil)
      (C8.pss_cut (ps_if (pt_cmpR op_notIn_seq (pv 9) (pv 7) rfl) (pss_one (ps_ret pe_non)) pss_nil)
      (pss_one (ps_set (i := 8) nd rfl (.inl rfl) (pe_op op_add (pe_tidx mt_tup_index (pv 7) (pv 9)) (pe_callTy call_int1 (by rfl) T.b_int (by decide +kernel) (pa_cons (pe_cmpR op_in_seq (pv 2) (pe_tup (pa_cons pe_str (pa_cons pe_str pa_nil))) rfl) pa_nil)))))))) pss_nil)
      (pss_one (ps_ret (pe_op op_catX (pe_op op_catX (pe_slice sl_tupX (pv 7) po_none (po_some (pv 8))) (pv 6)) (pe_slice sl_tupX (pv 7) (po_some (pv 8)) po_none)))))))))))), ?_⟩
  obtain ⟨r, a, x, xs, d, rfl, hx, hD, hd, hlen, qn, qs⟩ := h
  have hin1 : ∀ n : Str, V.str (("+" : Str) ++ n) = eV (.op n) := fun _ => rfl
  refine ⟨_, rfl, a, _, _, _, rfl, rfl, hD.t, atI_nat (j := 0) hD.x0, _, rfl, a, _, _, _, rfl, rfl, hD.t, atI_nat (j := 1) hD.x1, _, _, rfl, ?_⟩
  have hpl : 1 + d.a.length ≤ sizeLine := by have := hd.1; rw [line]; omega
  have hplb : 1 + d.b.length ≤ sizeLine := by have := hd.2; rw [line]; omega
  refine ⟨fun σ' H' => σ' = [some (.ref r), some (.ref a), some (.str (wTxt d.w)), some (.str d.a), none, none, none, none, none, none] ∧ H' = H ∧ En.op d.a ∈ Wd.row x, ?_, ?_⟩
  · refine ⟨_, rfl, _, _, rfl, rfl, hpl, _, rfl, r, _, rfl, .inr hx.sq, rfl, flat_all _, _, rfl, ?_⟩
    show if (!inV (eV (.op d.a)) (RowV (Wd.row x))) = true then _ else _
    rw [in_row]
    refine ifB (fun h => ?_) (fun h => ?_)
    · refine qn H ?_ (Same.refl H)
      unfold mvd
      rw [if_neg (by simpa using h)]
    · exact ⟨rfl, rfl, by simpa using h⟩
  rintro σ' H' ⟨rfl, rfl, hop⟩
  have hcl := (cl_mem_row x d.a).mpr ((op_mem_row x d.a).mp hop)
  have e1 := len_pos hop
  have e2 := len_pos hcl
  have c1 : ((((Wd.row x).idxOf (.cl d.a) : Nat) : Int) + 1) = (((Wd.row x).idxOf (.cl d.a) + 1 : Nat) : Int) := (cast1 _).symm
  refine ⟨_, rfl, ⟨_, _, rfl, hx⟩, _, rfl, _, _, rfl, rfl, hpl, r, (Wd.row x).map enc, enc (.op d.a), _, rfl, rfl, hx.sq, idx_get hop, idx_no hop, ?_⟩
  refine ⟨_, rfl, ⟨_, _, rfl, hx⟩, _, rfl, _, _, rfl, rfl, hpl, r, (Wd.row x).map enc, enc (.cl d.a), _, rfl, rfl, hx.sq, idx_get hcl, idx_no hcl, _, _, rfl, rfl, ?_⟩
  refine ⟨_, rfl, _, rfl, _, rfl, _, rfl, _, rfl, r, _, rfl, hx, fun p2 H2 s2 hb => ?_⟩
  have hb : TX H2 p2 (cutV (RowV (Wd.row x)) (some (((Wd.row x).idxOf (.op d.a) : Nat) : Int)) (some ((((Wd.row x).idxOf (.cl d.a) : Nat) : Int) + 1))) := hb
  rw [c1, RowV_cut _ (by omega) e2, ← List.drop_take, show List.drop _ (List.take _ (Wd.row x)) = blkOf (Wd.row x) d.a from rfl] at hb
  refine ⟨_, rfl, _, rfl, _, rfl, r, _, rfl, hx.same s2, fun p3 H3 s3 h3 => ?_⟩
  rw [RowV_to _ (by omega)] at h3
  have s03 := s2.trans s3
  refine ⟨_, rfl, _, rfl, _, rfl, r, _, rfl, hx.same s03, fun p4 H4 s4 h4 => ?_⟩
  have h4 : TX H4 p4 (cutV (RowV (Wd.row x)) (some ((((Wd.row x).idxOf (.cl d.a) : Nat) : Int) + 1)) none) := h4
  rw [c1, RowV_from _ e2] at h4
  refine ⟨p3, p4, _, _, rfl, rfl, h3.same s4, h4, ?_, fun p5 H5 s5 h5 => ?_⟩
  · rw [RowV_len, RowV_len, line, List.length_take, List.length_drop]; omega
  rw [← RowV_cat, show List.take _ (Wd.row x) ++ List.drop _ (Wd.row x) = restOf (Wd.row x) d.a from rfl] at h5
  have hrl : (restOf (Wd.row x) d.a).length ≤ 200000 := by unfold restOf; rw [List.length_append, List.length_take, List.length_drop]; omega
  have hbl : (blkOf (Wd.row x) d.a).length ≤ 200000 := by unfold blkOf; rw [List.length_drop, List.length_take]; omega
  have s05 := (s03.trans s4).trans s5
  have hb5 := (hb.same ((s3.trans s4).trans s5))
  have hmv : mvd (Wd.row x) d = (place (restOf (Wd.row x) d.a) d).map fun t => (restOf (Wd.row x) d.a).take t ++ blkOf (Wd.row x) d.a ++ (restOf (Wd.row x) d.a).drop t := by unfold mvd; rw [if_pos hop]
  rw [hmv] at qn qs
  clear hmv
  revert hrl hbl h5 hb5 qn qs
  generalize restOf (Wd.row x) d.a = R
  generalize blkOf (Wd.row x) d.a = B
  intro qn qs h5 hrl hbl hb5
  have hD5 := sameT s05 hD.t
  refine ⟨_, rfl, _, R.length, rfl, .inr ⟨_, h5.sq, (RowV_len R).symm⟩, _, rfl, rfl, .inr ⟨_, rfl, _, _, rfl, rfl, .inl ⟨by omega, by omega⟩, ?_⟩⟩
  refine ⟨fun σ' H' => ∃ (u9 : Option V) (t : Nat), σ' = [some (.ref r), some (.ref a), some (.str (wTxt d.w)), some (.str d.a), some (.int ((Wd.row x).idxOf (.op d.a) : Nat)), some (.int (((Wd.row x).idxOf (.cl d.a) : Nat) + 1)), some (.ref p2), some (.ref p5), some (.int (t : Nat)), u9] ∧ Same H5 H' ∧ place R d = some t, ?_, ?_⟩
  · refine ⟨_, rfl, by show 2 ≤ sizeLine; decide, fun pt hpt => ?_⟩
    generalize hE_H6 : upd H5 pt _ = H6
    have e6 := (congrFun hE_H6 pt).symm.trans upd_same
    have n6 : ∀ q_, q_ ≠ pt → H6 q_ = H5 q_ := by subst hE_H6; exact fun q_ h => upd_ne h
    have s6 : Same H5 H6 := by subst hE_H6; exact same_new hpt
    clear hE_H6
    refine ⟨pt, _, rfl, .inr (.inl (.inl e6)), rfl, rfl, _, rfl, ?_⟩
    have hnb : (!inV (V.str (wTxt d.w)) [V.str "front", V.str "back"]) = needB d.w := by cases d.w <;> rfl
    refine ifE (needB d.w) hnb (ifB (fun nb => ?_) (fun nb => ?_))
    · have hD6 := sameT s6 hD5
      refine ⟨_, rfl, a, _, _, _, rfl, rfl, hD6, atI_nat (j := 2) (hD.x2 nb), _, _, rfl, rfl, hplb, ?_⟩
      refine ⟨fun σ' H' => σ' = [some (.ref r), some (.ref a), some (.str (wTxt d.w)), some (.str d.a), some (.int ((Wd.row x).idxOf (.op d.a) : Nat)), some (.int (((Wd.row x).idxOf (.cl d.a) : Nat) + 1)), some (.ref p2), some (.ref p5), some (.int ((R.length : Int) * (if decide (V.str (wTxt d.w) = V.str "back") = true then 1 else 0))), some (eV (wEnd d.w d.b))] ∧ Same H6 H', ?_, ?_⟩
      · refine ⟨_, rfl, by show 2 ≤ sizeLine; decide, fun pt2 hpt2 => ?_⟩
        generalize hE_H7 : upd H6 pt2 _ = H7
        have e7 := (congrFun hE_H7 pt2).symm.trans upd_same
        have n7 : ∀ q_, q_ ≠ pt2 → H7 q_ = H6 q_ := by subst hE_H7; exact fun q_ h => upd_ne h
        have s7 : Same H6 H7 := by subst hE_H7; exact same_new hpt2
        clear hE_H7
        refine ⟨pt2, _, rfl, .inr (.inl (.inl e7)), rfl, rfl, _, rfl, ?_⟩
        show if inV (V.str (wTxt d.w)) [V.str "last", V.str "behind"] = true then _ else _
        refine ifB (fun h => ?_) (fun h => ?_)
        · refine ⟨_, rfl, a, _, _, _, rfl, rfl, sameT s7 hD6, atI_nat (j := 2) (hD.x2 nb), _, _, rfl, rfl, hplb, ?_, s7⟩
          have e : wEnd d.w d.b = En.cl d.b := by revert h; cases d.w <;> first | (intro h; exact absurd h (by decide)) | (intro _; rfl)
          rw [e]
          rfl
        · refine ⟨?_, s7⟩
          have e : wEnd d.w d.b = En.op d.b := by revert h nb; cases d.w <;> first | (intro _ _; rfl) | (intro h _; exact absurd h (by decide)) | (intro _ h; exact absurd h (by decide))
          rw [e]
          rfl
      rintro σ' H7 ⟨rfl, s7⟩
      refine ⟨fun σ' H' => σ' = [some (.ref r), some (.ref a), some (.str (wTxt d.w)), some (.str d.a), some (.int ((Wd.row x).idxOf (.op d.a) : Nat)), some (.int (((Wd.row x).idxOf (.cl d.a) : Nat) + 1)), some (.ref p2), some (.ref p5), some (.int ((R.length : Int) * (if decide (V.str (wTxt d.w) = V.str "back") = true then 1 else 0))), some (eV (wEnd d.w d.b))] ∧ H' = H7 ∧ wEnd d.w d.b ∈ R, ?_, ?_⟩
      · refine ⟨_, rfl, _, rfl, p5, _, rfl, .inr (h5.same (s6.trans s7)).sq, rfl, flat_all _, _, rfl, ?_⟩
        show if (!inV (eV (wEnd d.w d.b)) (RowV R)) = true then _ else _
        rw [in_row]
        refine ifB (fun h => ?_) (fun h => ?_)
        · refine qn H7 ?_ ((s05.trans s6).trans s7)
          have hno : wEnd d.w d.b ∉ R := by simpa using h
          have : place R d = none := by
            unfold place
            cases e : d.w <;> rw [e] at nb hno
            all_goals first
              | exact absurd nb (by decide)
              | (simp only []; rw [if_neg hno])
          rw [this]; rfl
        · exact ⟨rfl, rfl, by simpa using h⟩
      rintro σ' H8 ⟨rfl, rfl, hin⟩
      have h58 := h5.same (s6.trans s7)
      refine ⟨_, rfl, ⟨_, _, rfl, h58⟩, _, rfl, p5, R.map enc, enc (wEnd d.w d.b), _, rfl, rfl, h58.sq, idx_get hin, idx_no hin, _, rfl, by show 2 ≤ sizeLine; decide, fun pt3 hpt3 => ?_⟩
      generalize hE_H9 : upd H8 pt3 _ = H9
      have e9 := (congrFun hE_H9 pt3).symm.trans upd_same
      have n9 : ∀ q_, q_ ≠ pt3 → H9 q_ = H8 q_ := by subst hE_H9; exact fun q_ h => upd_ne h
      have s9 : Same H8 H9 := by subst hE_H9; exact same_new hpt3
      clear hE_H9
      refine ⟨pt3, _, rfl, .inr (.inl (.inl e9)), rfl, rfl, .inr ⟨_, rfl, _, _, rfl, rfl, some (eV (wEnd d.w d.b)), R.idxOf (wEnd d.w d.b) + wAft d.w, ?_, (s6.trans s7).trans s9, ?_⟩⟩
      · have e : ((R.idxOf (wEnd d.w d.b) : Nat) : Int) + (if inV (V.str (wTxt d.w)) [V.str "first", V.str "behind"] = true then 1 else 0) = ((R.idxOf (wEnd d.w d.b) + wAft d.w : Nat) : Int) := by
          revert nb
          cases d.w <;> first | (intro h; exact absurd h (by decide)) | (intro _; rfl)
        rw [← e]
        rfl
      · unfold place
        cases e : d.w <;> rw [e] at nb hin
        all_goals first
          | exact absurd nb (by decide)
          | (simp only []; rw [if_pos hin])
    · rcases (show d.w = .front ∨ d.w = .back by revert nb; cases d.w <;> simp [needB]) with e | e
      · refine ⟨none, 0, ?_, s6, by unfold place; rw [e]⟩
        rw [e]
        have z : (R.length : Int) * (if decide (V.str (wTxt .front) = V.str "back") = true then 1 else 0) = ((0 : Nat) : Int) := by
          rw [if_neg (by decide)]; simp
        rw [← z]
        rfl
      · refine ⟨none, R.length, ?_, s6, by unfold place; rw [e]⟩
        rw [e]
        have z : (R.length : Int) * (if decide (V.str (wTxt .back) = V.str "back") = true then 1 else 0) = ((R.length : Nat) : Int) := by
          rw [if_pos (by decide)]; simp
        have z2 : some (V.int ((R.length : Nat) : Int)) = some (V.int ((R.length : Int) * (if decide (V.str (wTxt .back) = V.str "back") = true then 1 else 0))) := by rw [z]
        rw [z2]
        rfl
  · rintro σ' H6 ⟨u9, t, rfl, s6, hpt⟩
    have htl := place_le hpt
    refine ⟨_, rfl, _, rfl, _, rfl, p5, _, rfl, h5.same s6, fun q1 H7 s7 g7 => ?_⟩
    rw [RowV_to _ htl] at g7
    refine ⟨_, rfl, q1, p2, _, _, rfl, rfl, g7, hb5.same (s6.trans s7), ?_, fun q2 H8 s8 g8 => ?_⟩
    · rw [RowV_len, RowV_len, line, List.length_take]; omega
    rw [← RowV_cat] at g8
    refine ⟨_, rfl, _, rfl, _, rfl, p5, _, rfl, h5.same ((s6.trans s7).trans s8), fun q3 H9 s9 g9 => ?_⟩
    rw [RowV_from _ htl] at g9
    refine ⟨q2, q3, _, _, rfl, rfl, g8.same s9, g9, ?_, fun q4 H10 s10 g10 => ?_⟩
    · rw [RowV_len, RowV_len, line, List.length_append, List.length_take, List.length_drop]; omega
    rw [← RowV_cat] at g10
    exact qs _ q4 H10 (by rw [hpt]; rfl) (((((s05.trans s6).trans s7).trans s8).trans s9).trans s10) g10
end
end K76
/-! text W18 -/
set_option Elab.async false
set_option linter.all false
set_option maxRecDepth 100000
set_option maxHeartbeats 400000
namespace K76
open PySem PySem.Spec PyProof.Rows L2
abbrev Ent := Str × Wd Str
def pf : List Ent → List (En Str)
  | [] => []
  | [z] => Wd.row z.2
  | z :: y :: es => pf (y :: es) ++ En.op z.1 :: Wd.row z.2
theorem pf_app (m : Str) (w' T : Wd Str) (es : List Ent) : pf ((m, Wd.app w' T) :: es) = pf ((m, w') :: es) ++ Wd.row T := by
  cases es with
  | nil => exact row_app w' T
  | cons y es => show pf (y :: es) ++ En.op m :: Wd.row (Wd.app w' T) = _; rw [row_app]; simp [pf]
theorem trs_app (a b : Wd Str) : trs (Wd.app a b) = trs a ++ trs b := by
  induction a with
  | nil => rfl
  | cons n i r _ ih => simp [Wd.app, trs, ih]
def spFromRow (K : PySem.W.Frag) : Sp := fun vs H Q _ => ∃ (a : Addr) (x : Wd Str), vs = [.ref a] ∧ TX H a (RowV (Wd.row x)) ∧ (∀ n ∈ Wd.nms x, n.length ≤ 100) ∧ (Wd.nms x).length ≤ 1000 ∧ ∀ p H', Same H H' → WoodAt K H' p x → Q (.ref p) H'
theorem enc_len {e : En Str} {x : Wd Str} (h : e ∈ Wd.row x) (hn : ∀ n ∈ Wd.nms x, n.length ≤ 100) : (enc e).length ≤ 1000 := by
  have z : (enc e).length = (enc e).cps.toList.length := by rw [Array.length_toList]; rfl
  rw [z, enc_cps]
  cases e with
  | op n =>
    have := hn n ((op_mem_row x n).mp h)
    have w : n.cps.toList.length = n.length := by rw [Array.length_toList]; rfl
    simp [w]; omega
  | cl n =>
    have := hn n ((cl_mem_row x n).mp h)
    have w : n.cps.toList.length = n.length := by rw [Array.length_toList]; rfl
    simp [w]; omega
section
variable {P : Program} {w : World} {K : PySem.W.Frag} {mg : Str → Option Value} {base : Heap}
abbrev N_law_from_row : List Str := ["_law_row_here", "_law_still", "_law_end", "_law_tree", "_law_name_here", "_law_trees"]
theorem sc_law_from_row : FnScope N_law_from_row ["_law_row_here"] (defScope (top 55)) := ⟨rfl, rfl, rfl, by decide +kernel, rfl, by decide +kernel, by decide +kernel⟩
theorem cal_law_from_row (T : Tp K mg) (F : Fnn K mg "_law_from_row" 55)   : Cal P w K mg base 1 "_law_from_row" (spFromRow K) := by
  have nd := sc_law_from_row.nd
  refine cal F (fun _ _ _ _ _ _ us hl => match us, hl with | [_], _ => rfl) sc_law_from_row (fun vs H Q E h => by obtain ⟨a, x, rfl, hx, hn, hlen, q⟩ := h; rfl) (fun f cdv A outer s H vs Q E hr h => ?_)
  have hu := hu_of hr
  refine ⟨_, (pss_cons (ps_set (i := 1) nd rfl (.inl rfl) (pe_lst (pa_cons (pe_tup (pa_cons pe_str (pa_cons (pe_tup pa_nil) pa_nil))) pa_nil)))
      (pss_cons (ps_for PassesOwn.never rfl (pi_tup (pv 0)) (pg_name (i := 2) nd rfl (.inl rfl)) (pss_one (ps_if (pt_cmpR op_eq (pe_ix ix_str (pv 2) pe_int (fun _ _ => rfl)) pe_str (nomark _)) (pss_one (ps_expr (pe_bm PySem.F.plainAttrs_list PySem.F.slot_list_append PySem.F.type_list_append mt_append (pv 1) (pa_cons (pe_tup (pa_cons (pe_slice C8.sl_txt (pv 2) (po_some pe_int) po_none) (pa_cons (pe_tup pa_nil) pa_nil))) pa_nil)))) (pss_cons (ps_set (i := 3) nd rfl (.inl rfl) (pe_bm0 PySem.F.plainAttrs_list PySem.F.slot_list_pop PySem.F.type_list_pop mt_pop (pv 1)))
      (pss_cons (ps_asg (pe_bm0 PySem.F.plainAttrs_list PySem.F.slot_list_pop PySem.F.type_list_pop mt_pop (pv 1)) (pg_tup rfl (pgs_cons (pg_name (i := 4) nd rfl (.inl rfl)) (pgs_cons (pg_name (i := 5) nd rfl (.inl rfl)) pgs_nil))))
      (pss_one (ps_expr (pe_bm PySem.F.plainAttrs_list PySem.F.slot_list_append PySem.F.type_list_append mt_append (pv 1) (pa_cons (pe_tup (pa_cons (pv 4) (pa_cons (pe_op op_catA (pv 5) (pe_tup (pa_cons (pv 3) pa_nil))) pa_nil))) pa_nil)))))))))
      (pss_one (ps_ret (pe_ix ix_tup (pe_ix ix_list (pv 1) pe_int (fun _ _ => rfl)) pe_int (fun _ _ => rfl)))))), ?_⟩
  obtain ⟨a, x, rfl, hx, hn, hlen, q⟩ := h
  refine ⟨by decide, fun pe hpe => ?_⟩
  generalize hE_Ha : upd H pe _ = Ha
  have e1 := (congrFun hE_Ha pe).symm.trans upd_same
  have n1 : ∀ q_, q_ ≠ pe → Ha q_ = H q_ := by subst hE_Ha; exact fun q_ h => upd_ne h
  have s1 : Same H Ha := by subst hE_Ha; exact same_new hpe
  clear hE_Ha
  refine ⟨by show 2 ≤ sizeLine; decide, fun pt hpt => ?_⟩
  generalize hE_Hb : upd Ha pt _ = Hb
  have e2 := (congrFun hE_Hb pt).symm.trans upd_same
  have n2 : ∀ q_, q_ ≠ pt → Hb q_ = Ha q_ := by subst hE_Hb; exact fun q_ h => upd_ne h
  have s2 : Same Ha Hb := by subst hE_Hb; exact same_new hpt
  clear hE_Hb
  refine ⟨by show 1 ≤ sizeLine; decide, fun ps hps => ?_⟩
  generalize hE_Hc : upd Hb ps _ = Hc
  have e3 := (congrFun hE_Hc ps).symm.trans upd_same
  have n3 : ∀ q_, q_ ≠ ps → Hc q_ = Hb q_ := by subst hE_Hc; exact fun q_ h => upd_ne h
  have s3 : Same Hb Hc := by subst hE_Hc; exact same_new hps
  clear hE_Hc
  have s0 := (s1.trans s2).trans s3
  have hpsH : H ps = none := (s1.trans s2).free hps
  have hrl : (Wd.row x).length ≤ 2000 := by rw [row_len]; omega
  refine ⟨_, rfl, a, rfl, ⟨_, (hx.same s0).sq⟩, ?_⟩
  refine for_it (walk_tup (K := K) (a := a) (xs := RowV (Wd.row x))) (fun i σ' H' => ∃ (u2 u3 u4 u5 : Option V) (es : List Ent) (ws : List V), σ' = [some (.ref a), some (.ref ps), u2, u3, u4, u5] ∧ Same H H' ∧ H' ps = some (.lst ws) ∧ Al (TreeAt K H') ws es.reverse ∧ es ≠ [] ∧
    pf es = (Wd.row x).take i ∧ run [] ((Wd.row x).take i) = some (es.dropLast.map (·.1)) ∧ es.length ≤ i + 1)
    ⟨_, _, _, _, [("", .nil)], [.ref pt], rfl, s0, e3, ⟨⟨pt, pe, rfl, .inl (.inl (s3 _ _ e2)), [], .inl (.inl (s3 _ _ (s2 _ _ e1))), rfl⟩, trivial⟩, by simp, rfl, rfl, by simp⟩ ?_ ?_ ?_
  · rintro i σ' H' _ ⟨u2, u3, u4, u5, es, ws, rfl, sm, _⟩
    exact (hx.same sm).sq
  · rintro i v σ' H2 H3 hi ⟨u2, u3, u4, u5, es, ws, rfl, sm, hw, hal, hne, hpf, hrun, hel⟩ ⟨rfl, hv⟩
    have hi2 : i < (Wd.row x).length := by rw [RowV_len] at hi; exact hi
    obtain ⟨e, he⟩ : ∃ e, (Wd.row x)[i]? = some e := ⟨_, List.getElem?_eq_getElem hi2⟩
    have hve : v = eV e := by
      have := RowV_get he
      rw [this] at hv
      exact (Option.some.inj hv).symm
    subst hve
    have hmem := List.mem_of_getElem? he
    have htk : (Wd.row x).take (i + 1) = (Wd.row x).take i ++ [e] := by rw [List.take_add_one, he]; rfl
    have hdr : (Wd.row x).drop i = e :: (Wd.row x).drop (i + 1) := by rw [List.drop_eq_getElem_cons hi2, (List.getElem?_eq_some_iff.mp he).2]
    have hl := enc_len hmem hn
    have hwl : ws.length ≤ 3000 := by have := hal.len; rw [List.length_reverse] at this; omega
    refine ⟨_, rfl, _, _, (match e with
      | .op _ => 43
      | .cl _ => 45), rfl, rfl, by rw [line]; omega, ?_, rfl, _, rfl, ?_⟩
    · rw [enc_cps]; cases e <;> exact atI_nat (j := 0) rfl
    cases e with
    | op n =>
      refine ifY rfl ?_
      refine ⟨_, rfl, .inl ⟨rfl, _, .inl (.inl hw)⟩, _, rfl, _, rfl, _, rfl, by rw [line]; omega, ?_⟩
      rw [enc_tail]
      refine ⟨by decide, fun p1 hp1 => ?_⟩
      generalize hE_H4 : upd H3 p1 _ = H4
      have e4 := (congrFun hE_H4 p1).symm.trans upd_same
      have n4 : ∀ q_, q_ ≠ p1 → H4 q_ = H3 q_ := by subst hE_H4; exact fun q_ h => upd_ne h
      have s4 : Same H3 H4 := by subst hE_H4; exact same_new hp1
      clear hE_H4
      refine ⟨by show 2 ≤ sizeLine; decide, fun p2 hp2 => ?_⟩
      generalize hE_H5 : upd H4 p2 _ = H5
      have e5 := (congrFun hE_H5 p2).symm.trans upd_same
      have n5 : ∀ q_, q_ ≠ p2 → H5 q_ = H4 q_ := by subst hE_H5; exact fun q_ h => upd_ne h
      have s5 : Same H4 H5 := by subst hE_H5; exact same_new hp2
      clear hE_H5
      have hw5 := s5 _ _ (s4 _ _ hw)
      refine ⟨ps, _, _, rfl, rfl, hw5, by rw [line]; omega, ?_⟩
      generalize hE_H6 : upd H5 ps _ = H6
      have e6 := (congrFun hE_H6 ps).symm.trans upd_same
      have n6 : ∀ q_, q_ ≠ ps → H6 q_ = H5 q_ := by subst hE_H6; exact fun q_ h => upd_ne h
      have k6 : Kp H5 H6 := by subst hE_H6; exact Kp.mut hw5 (fun z => z)
      have m6 : ∀ H0, Same H0 H5 → H0 ps = none → Same H0 H6 := by subst hE_H6; exact fun _ s h => same_mut s h
      clear hE_H6
      have k36 : Kp H3 H6 := ((Kp.of s4).trans (Kp.of s5)).trans k6
      refine ⟨_, _, _, _, (n, .nil) :: es, _, rfl, m6 H ((sm.trans s4).trans s5) hpsH, e6, ?_, by simp, ?_, ?_, ?_⟩
      · rw [List.reverse_cons]
        exact (hal.mono fun _ _ h => h.same k36).app ⟨⟨p2, p1, rfl, k6.T (.inl (.inl e5)), [], k6.T (.inl (.inl (s5 _ _ e4))), rfl⟩, trivial⟩
      · rw [htk, ← hpf]
        cases es with
        | nil => exact absurd rfl hne
        | cons y es => rfl
      · rw [htk, run_append, hrun]
        cases es with
        | nil => exact absurd rfl hne
        | cons y es => rfl
      · rw [List.length_cons]; omega
    | cl n =>
      refine ifN (show (⟨#[45]⟩ : Str) ≠ "+" by decide) ?_
      have hr2 : run (es.dropLast.map (·.1)) (En.cl n :: (Wd.row x).drop (i + 1)) = some [] := by
        have h1 := run_row x []
        rw [← List.take_append_drop i (Wd.row x), run_append, hrun, hdr] at h1
        exact h1
      match es, hal, hpf, hrun, hr2, hne, hel with
      | [], _, _, _, _, h, _ => exact absurd rfl h
      | [z], _, _, _, h, _, _ => exact absurd h (by simp [run])
      | (m, wt) :: (m2, w2) :: es2, hal, hpf, hrun, hr2, _, hel =>
        have hmn : m = n := by
          rw [show ((m, wt) :: (m2, w2) :: es2).dropLast = (m, wt) :: ((m2, w2) :: es2).dropLast from rfl] at hr2
          by_cases c : m = n
          · exact c
          · simp [run, c] at hr2
        subst hmn
        rw [List.reverse_cons] at hal
        obtain ⟨ws1, v1, rfl, hal1, hv1⟩ := al_snoc hal
        rw [List.reverse_cons] at hal1
        obtain ⟨ws2, v2, rfl, hal2, hv2⟩ := al_snoc hal1
        obtain ⟨t1, b1, rfl, ht1, hb1⟩ := hv1
        refine ⟨_, rfl, .inl ⟨rfl, _, .inl (.inl hw)⟩, ps, _, .ref t1, rfl, rfl, hw, by simp, ?_⟩
        rw [List.dropLast_concat]
        generalize hE_H4 : upd H3 ps _ = H4
        have e4 := (congrFun hE_H4 ps).symm.trans upd_same
        have n4 : ∀ q_, q_ ≠ ps → H4 q_ = H3 q_ := by subst hE_H4; exact fun q_ h => upd_ne h
        have k4 : Kp H3 H4 := by subst hE_H4; exact Kp.mut hw (fun z => z)
        have m4 : ∀ H0, Same H0 H3 → H0 ps = none → Same H0 H4 := by subst hE_H4; exact fun _ s h => same_mut s h
        clear hE_H4
        refine ⟨_, rfl, .inl ⟨rfl, _, .inl (.inl e4)⟩, ps, _, v2, rfl, rfl, e4, by simp, ?_⟩
        rw [List.dropLast_concat]
        generalize hE_H5 : upd H4 ps _ = H5
        have e5 := (congrFun hE_H5 ps).symm.trans upd_same
        have n5 : ∀ q_, q_ ≠ ps → H5 q_ = H4 q_ := by subst hE_H5; exact fun q_ h => upd_ne h
        have k5 : Kp H4 H5 := by subst hE_H5; exact Kp.mut e4 (fun z => z)
        have m5 : ∀ H0, Same H0 H4 → H0 ps = none → Same H0 H5 := by subst hE_H5; exact fun _ s h => same_mut s h
        clear hE_H5
        have k35 := k4.trans k5
        obtain ⟨t2, b2, rfl, ht2, ⟨xs2, hx2, hxt⟩⟩ := TreeAt.same k35 hv2
        refine ⟨t2, _, rfl, ht2, rfl, _, _, rfl, _, _, rfl, rfl, ?_⟩
        refine ⟨_, rfl, .inl ⟨rfl, _, .inl (.inl e5)⟩, _, rfl, _, rfl, _, rfl, by show 1 ≤ sizeLine; decide, fun p1 hp1 => ?_⟩
        generalize hE_H6 : upd H5 p1 _ = H6
        have e6 := (congrFun hE_H6 p1).symm.trans upd_same
        have n6 : ∀ q_, q_ ≠ p1 → H6 q_ = H5 q_ := by subst hE_H6; exact fun q_ h => upd_ne h
        have s6 : Same H5 H6 := by subst hE_H6; exact same_new hp1
        clear hE_H6
        have hxl : xs2.length ≤ 3000 := by
          have h1 : xs2.length = (Wd.roots w2).length := hxt.len
          have h2 := roots_len w2
          have h3 : (Wd.row w2).length ≤ (Wd.row x).length := by
            have h4 : (Wd.row w2).length ≤ (pf ((m, wt) :: (m2, w2) :: es2)).length := by
              cases es2 with
              | nil => simp only [pf, List.length_append]; omega
              | cons y es2 => simp only [pf, List.length_append, List.length_cons]; omega
            rw [hpf, List.length_take] at h4
            omega
          have h5 := row_len w2
          omega
        have k36 := k35.trans (Kp.of s6)
        have hnew : ∀ p H7, Kp H6 H7 → SqT K H7 p (xs2 ++ [V.ref t1]) → WoodAt K H7 p (Wd.app w2 (.cons m wt .nil)) := fun p H7 k7 h7 => by
          refine ⟨_, h7, TreesAt.of ?_⟩
          rw [trs_app]
          exact (hxt.al.mono fun _ _ h => h.same ((Kp.of s6).trans k7)).app ⟨⟨t1, b1, rfl, (k36.trans k7).T ht1, hb1.same (k36.trans k7)⟩, trivial⟩
        have fin : ∀ (p : Addr) (H7 : Hp), Same H6 H7 → SqT K H7 p (xs2 ++ [V.ref t1]) → tTup (tCons (tC (.str m2)) (tCons (tC (.ref p)) tNil)) [] H7 (fun y H8 => ∃ t3, y = .ref t3 ∧ Same H7 H8 ∧ SqT K H8 t3 [.str m2, .ref p]) := fun p H7 s7 h7 => ⟨by show 2 ≤ sizeLine; decide, fun t3 ht3 => ⟨t3, rfl, same_new ht3, .inl (.inl upd_same)⟩⟩
        have wrap : ∀ (p : Addr) (H7 : Hp), Same H6 H7 → SqT K H7 p (xs2 ++ [V.ref t1]) → ∀ (t3 : Addr) (H8 : Hp), Same H7 H8 → SqT K H8 t3 [.str m2, .ref p] → ∀ H9, H9 ps = some (.lst (ws2 ++ [.ref t3])) → (∀ q_, q_ ≠ ps → H9 q_ = H8 q_) → Kp H8 H9 →
            ∃ (u2 u3 u4 u5 : Option V) (es : List Ent) (ws : List V), [some (V.ref a), some (V.ref ps), some (eV (.cl m)), some (V.ref t1), some (V.str m2), some (V.ref b2)] = [some (.ref a), some (.ref ps), u2, u3, u4, u5] ∧ Same H H9 ∧ H9 ps = some (.lst ws) ∧ Al (TreeAt K H9) ws es.reverse ∧ es ≠ [] ∧
            pf es = (Wd.row x).take (i + 1) ∧ run [] ((Wd.row x).take (i + 1)) = some (es.dropLast.map (·.1)) ∧ es.length ≤ i + 1 + 1 := by
          intro p H7 s7 h7 t3 H8 s8 h8 H9 e9 o9 k9
          have kk : Kp H3 H9 := (((k36.trans (Kp.of s7)).trans (Kp.of s8)).trans k9)
          refine ⟨_, _, _, _, (m2, Wd.app w2 (.cons m wt .nil)) :: es2, _, rfl, ?_, e9, ?_, by simp, ?_, ?_, ?_⟩
          · intro c o2 e
            have hc : c ≠ ps := ne_of_none e hpsH
            exact (o9 c hc).trans (s8 _ _ (s7 _ _ (s6 _ _ ((n5 c hc).trans ((n4 c hc).trans (sm _ _ e))))))
          · rw [List.reverse_cons]
            exact (hal2.mono fun _ _ h => h.same kk).app ⟨⟨t3, p, rfl, k9.T h8, hnew p H9 (((Kp.of s7).trans (Kp.of s8)).trans k9) (((Kp.of s8).trans k9).T h7)⟩, trivial⟩
          · rw [pf_app, htk, ← hpf]
            simp [pf, Wd.row]
          · rw [htk, run_append, hrun]
            show run ((m, wt) :: (m2, w2) :: es2 |>.dropLast.map (·.1)) [En.cl m] = _
            rw [show ((m, wt) :: (m2, w2) :: es2).dropLast = (m, wt) :: ((m2, w2) :: es2).dropLast from rfl]
            simp only [List.map_cons, run, if_true]
            cases es2 with
            | nil => rfl
            | cons y es2 => rfl
          · simp only [List.length_cons] at hel ⊢; omega
        refine ⟨b2, p1, xs2, _, rfl, rfl, (Kp.of s6).T hx2, .inl (.inl e6), by rw [line]; show _ + 1 ≤ _; omega, fun hz => ?_, fun _ hz => (nomatch hz), fun _ _ p2 hp2 => ?_⟩
        · subst hz
          refine ⟨by show 2 ≤ sizeLine; decide, fun t3 ht3 => ?_⟩
          generalize hE_H7 : upd H6 t3 _ = H7
          have e7 := (congrFun hE_H7 t3).symm.trans upd_same
          have n7 : ∀ q_, q_ ≠ t3 → H7 q_ = H6 q_ := by subst hE_H7; exact fun q_ h => upd_ne h
          have s7 : Same H6 H7 := by subst hE_H7; exact same_new ht3
          clear hE_H7
          have hw7 := s7 _ _ (s6 _ _ e5)
          refine ⟨ps, _, _, rfl, rfl, hw7, by rw [line]; simp at hwl; omega, ?_⟩
          generalize hE_H8 : upd H7 ps _ = H8
          have e8 := (congrFun hE_H8 ps).symm.trans upd_same
          have n8 : ∀ q_, q_ ≠ ps → H8 q_ = H7 q_ := by subst hE_H8; exact fun q_ h => upd_ne h
          have k8 : Kp H7 H8 := by subst hE_H8; exact Kp.mut hw7 (fun z => z)
          have m8 : ∀ H0, Same H0 H7 → H0 ps = none → Same H0 H8 := by subst hE_H8; exact fun _ s h => same_mut s h
          clear hE_H8
          exact wrap p1 H6 (Same.refl _) (.inl (.inl e6)) t3 H7 s7 (.inl (.inl e7)) H8 e8 n8 k8
        · generalize hE_H7 : upd H6 p2 _ = H7
          have e7 := (congrFun hE_H7 p2).symm.trans upd_same
          have n7 : ∀ q_, q_ ≠ p2 → H7 q_ = H6 q_ := by subst hE_H7; exact fun q_ h => upd_ne h
          have s7 : Same H6 H7 := by subst hE_H7; exact same_new hp2
          clear hE_H7
          refine ⟨by show 2 ≤ sizeLine; decide, fun t3 ht3 => ?_⟩
          generalize hE_H8 : upd H7 t3 _ = H8
          have e8 := (congrFun hE_H8 t3).symm.trans upd_same
          have n8 : ∀ q_, q_ ≠ t3 → H8 q_ = H7 q_ := by subst hE_H8; exact fun q_ h => upd_ne h
          have s8 : Same H7 H8 := by subst hE_H8; exact same_new ht3
          clear hE_H8
          have hw8 := s8 _ _ (s7 _ _ (s6 _ _ e5))
          refine ⟨ps, _, _, rfl, rfl, hw8, by rw [line]; simp at hwl; omega, ?_⟩
          generalize hE_H9 : upd H8 ps _ = H9
          have e9 := (congrFun hE_H9 ps).symm.trans upd_same
          have n9 : ∀ q_, q_ ≠ ps → H9 q_ = H8 q_ := by subst hE_H9; exact fun q_ h => upd_ne h
          have k9 : Kp H8 H9 := by subst hE_H9; exact Kp.mut hw8 (fun z => z)
          have m9 : ∀ H0, Same H0 H8 → H0 ps = none → Same H0 H9 := by subst hE_H9; exact fun _ s h => same_mut s h
          clear hE_H9
          exact wrap p2 H7 s7 (.inl (.inl e7)) t3 H8 s8 (.inl (.inl e8)) H9 e9 n9 k9
  · rintro σ' H2 ⟨u2, u3, u4, u5, es, ws, rfl, sm, hw, hal, hne, hpf, hrun, hel⟩
    rw [RowV_len, List.take_length] at hpf hrun
    rw [run_row] at hrun
    obtain ⟨z, rfl⟩ : ∃ z, es = [z] := by
      cases es with
      | nil => exact absurd rfl hne
      | cons z es =>
        cases es with
        | nil => exact ⟨z, rfl⟩
        | cons y es => simp at hrun
    have hz : z.2 = x := row_inj hpf
    obtain ⟨v, hwv, t, b, rfl, h1, h2⟩ : ∃ v, ws = [v] ∧ TreeAt K H2 v z := by
      cases ws with
      | nil => exact hal.elim
      | cons v ws =>
        cases ws with
        | nil => exact ⟨v, rfl, hal.1⟩
        | cons u ws => exact hal.2.elim
    subst hwv
    rw [hz] at h2
    exact ⟨_, rfl, ps, _, _, .ref t, rfl, rfl, .inl (.inl hw), rfl, t, _, _, _, rfl, rfl, h1, rfl, q b H2 sm h2⟩
end
end K76
/-! text W19 -/
set_option Elab.async false
set_option linter.all false
set_option maxRecDepth 100000
set_option maxHeartbeats 1000000
namespace K76
open PySem PySem.Spec PyProof.Rows L2
def spMixed (K : PySem.W.Frag) : Sp := fun vs H Q _ => ∃ (d a : Addr) (x : Wd Str), vs = [.ref d, .ref a] ∧ Deck H d ∧ WoodAt K H a x ∧ WdOk x ∧
  ∀ p H' y, WoodAt K H' p y → WdOk y → (Wd.nms y).Perm (Wd.nms x) → SameD d H H' → Deck H' d → Q (.ref p) H'
structure MI (d : Addr) (H H' : Hp) (pd b : Addr) (ks : List Str) (C : Str → List Str) (kvs : List (Key × V)) (L L0 : List Str) : Prop where
  s : SameD d H H'
  dk : Deck H' d
  kd : KDn H' d pd ks C kvs
  bb : H' b = some (.lst (L.map V.str))
  nb : H b = none
  ab : ∀ n c, valV kvs (kS n) = some (.ref c) → c ≠ b
  pm : L0.Perm L
theorem MI.go {d : Addr} {H H' H2 : Hp} {pd b : Addr} {ks : List Str} {C : Str → List Str} {kvs : List (Key × V)} {L L0 : List Str} (I : MI d H H' pd b ks C kvs L L0) (hd : b ≠ d) (s : SameD d H' H2) (k : Deck H2 d) : MI d H H2 pd b ks C kvs L L0 :=
  ⟨I.s.trans s, k, I.kd.go I.dk s, s _ _ hd I.bb, I.nb, I.ab, I.pm⟩
theorem MI.put {d : Addr} {H H' H2 : Hp} {pd b : Addr} {ks : List Str} {C : Str → List Str} {kvs : List (Key × V)} {L L0 L2 : List Str} (I : MI d H H' pd b ks C kvs L L0) (hd : b ≠ d) (e : H2 b = some (.lst (L2.map V.str))) (n : ∀ q, q ≠ b → H2 q = H' q) (pm : L0.Perm L2) : MI d H H2 pd b ks C kvs L2 L0 :=
  ⟨fun c o hc h => (n c (ne_of_none h I.nb)).trans (I.s c o hc h), I.dk.mut hd n, ⟨(n pd (fun z => by have h := I.bb; rw [← z, I.kd.dk] at h; cases h)).trans I.kd.dk, I.kd.ks, fun m hm => let ⟨c, h1, h2, h3⟩ := I.kd.at_ m hm; ⟨c, h1, h2, (n c (I.ab m c h2)).trans h3⟩⟩, e, I.nb, I.ab, pm⟩
theorem erase_perm {L : List Str} {r : Nat} {y : Str} (h : L[r]? = some y) : L.Perm (y :: L.eraseIdx r) := by
  have hr := (List.getElem?_eq_some_iff.mp h).1
  have e : L = L.take r ++ y :: L.drop (r + 1) := by
    rw [← (List.getElem?_eq_some_iff.mp h).2, ← List.drop_eq_getElem_cons hr, List.take_append_drop]
  have e2 : L.eraseIdx r = L.take r ++ L.drop (r + 1) := List.eraseIdx_eq_take_drop_succ L r
  rw [e2]
  conv => lhs; rw [e]
  exact List.perm_middle
section
variable {P : Program} {w : World} {K : PySem.W.Frag} {mg : Str → Option Value} {base : Heap}
abbrev N_law_mixed_kids : List Str := ["_law_deck_here", "_law_wood_here", "_law_kids_here", "_law_name_here", "_law_some", "_law_way", "_law_at", "_law_kid"]
theorem sc_law_mixed_kids : FnScope N_law_mixed_kids ["_law_deck_here", "_law_wood_here"] (defScope (top 57)) := ⟨rfl, rfl, rfl, by decide +kernel, rfl, by decide +kernel, by decide +kernel⟩
theorem cal_law_mixed_kids (T : Tp K mg) (F : Fnn K mg "_law_mixed_kids" 57)  (c__law_kids : Cal P w K mg base 1 "_law_kids" (spKids K)) (c__law_draw : Cal P w K mg base 1 "_law_draw" spDraw) (c__law_wood_of : Cal P w K mg base 202 "_law_wood_of" (spWoodOf K 201)) : Cal P w K mg base 203 "_law_mixed_kids" (spMixed K) := by
  have nd := sc_law_mixed_kids.nd
  refine cal F (fun _ _ _ _ _ _ us hl => match us, hl with | [_, _], _ => rfl) sc_law_mixed_kids (fun vs H Q E h => by obtain ⟨d, a, x, rfl, hd, hx, ok, q⟩ := h; rfl) (fun f cdv A outer s H vs Q E hr h => ?_)
  have hu := hu_of hr
  refine ⟨_, (pss_cons (ps_set (i := 2) nd rfl (.inl rfl) (pe_cc c__law_kids hr (by decide) (by rfl) (pa_cons (pv 1) pa_nil)))
      (pss_cons (ps_for PassesOwn.never rfl (pi_list (pe_callTy (call_list_keys rfl) (by rfl) T.b_list (by decide +kernel) (pa_cons (pe_keysV (pv 2)) pa_nil))) (pg_name (i := 3) nd rfl (.inl rfl)) (pss_cons (ps_set (i := 4) nd rfl (.inl rfl) (pe_callTy call_list_of (by rfl) T.b_list (by decide +kernel) (pa_cons (pe_dget hu (pv 2) (pv 3) (fun _ _ => rfl)) pa_nil)))
      (pss_cons (ps_set (i := 5) nd rfl (.inl rfl) (pe_cc c__law_draw hr (by decide) (by rfl) (pa_cons (pv 0) (pa_cons pe_int pa_nil))))
      (C8.pss_cut (ps_if (pt_cmpR op_eq (pv 5) pe_int (nomark _)) (pss_one (ps_set (i := 4) nd rfl (.inl rfl) (pe_revL (pv 4)))) pss_nil)
      (C8.pss_cut (ps_if (pt_cmpR op_eq (pv 5) pe_int (nomark _)) (pss_cons (ps_set (i := 6) nd rfl (.inl rfl) (pe_cc c__law_draw hr (by decide) (by rfl) (pa_cons (pv 0) (pa_cons (pe_op op_add (pe_callB call_len (by rfl) T.b_len (by decide +kernel) (pa_cons (pv 4) pa_nil)) pe_int) pa_nil))))
      (pss_one (ps_set (i := 4) nd rfl (.inl rfl) (pe_op op_cat (pe_slice sl_list (pv 4) (po_some (pv 6)) po_none) (pe_slice sl_list (pv 4) po_none (po_some (pv 6))))))) pss_nil)
      (C8.pss_cut (ps_if (PW.pt (pw_and (pt_cmpR op_eq (pv 5) pe_int (nomark _)) (pw_and1 (pt_cmpR (op_ne0 hr.units0) (pv 4) (pe_lst pa_nil) (nomark _))))) (pss_cons (ps_set (i := 7) nd rfl (.inl rfl) (pe_bm PySem.F.plainAttrs_list PySem.F.slot_list_pop PySem.F.type_list_pop mt_popAt (pv 4) (pa_cons (pe_cc c__law_draw hr (by decide) (by rfl) (pa_cons (pv 0) (pa_cons (pe_callB call_len (by rfl) T.b_len (by decide +kernel) (pa_cons (pv 4) pa_nil)) pa_nil))) pa_nil)))
      (pss_one (ps_expr (pe_bm PySem.F.plainAttrs_list PySem.F.slot_list_insert PySem.F.type_list_insert mt_insert (pv 4) (pa_cons (pe_cc c__law_draw hr (by decide) (by rfl) (pa_cons (pv 0) (pa_cons (pe_op op_add (pe_callB call_len (by rfl) T.b_len (by decide +kernel) (pa_cons (pv 4) pa_nil)) pe_int) pa_nil))) (pa_cons (pv 7) pa_nil)))))) pss_nil)
      (pss_one (ps_dput hu (pv 2) (pv 3) (pv 4) rfl))))))))
      (pss_one (ps_ret (pe_cc c__law_wood_of hr (by decide) (by rfl) (pa_cons (pv 2) (pa_cons pe_str pa_nil))))))), ?_⟩
  obtain ⟨d, a, x, rfl, hd, hx, ok, q⟩ := h
  have hlen := ok.len
  refine ⟨_, rfl, a, x, rfl, hx, ok, fun pd Hs kvs0 ks npd s1 kd0 hks => ?_⟩
  have d1 := hd.same s1
  have hpdd := hd.ne npd
  have kd1 := kd0.kdn hd
  have hkl : ks.length ≤ 201 := by have := hks.length_eq; rw [List.length_cons] at this; omega
  have hkv := kd1.len
  refine ⟨_, rfl, pd, kvs0, rfl, kd1.dk, fun v hv => ?_⟩
  generalize hE_Ha : upd Hs v _ = Ha
  have e2 := (congrFun hE_Ha v).symm.trans upd_same
  have n2 : ∀ q_, q_ ≠ v → Ha q_ = Hs q_ := by subst hE_Ha; exact fun q_ h => upd_ne h
  have s2 : Same Hs Ha := by subst hE_Ha; exact same_new hv
  clear hE_Ha
  refine ⟨v, pd, kvs0, rfl, e2, s2 _ _ kd1.dk, fun ql hql => ?_⟩
  have hqld := (d1.same s2).ne hql
  generalize hE_Hb : upd Ha ql _ = Hb
  have e3 := (congrFun hE_Hb ql).symm.trans upd_same
  have n3 : ∀ q_, q_ ≠ ql → Hb q_ = Ha q_ := by subst hE_Hb; exact fun q_ h => upd_ne h
  have s3 : Same Ha Hb := by subst hE_Hb; exact same_new hql
  clear hE_Hb
  rw [kd1.keys] at e3
  have s13 := s2.trans s3
  refine ⟨ql, rfl, ⟨_, .inl (.inl e3)⟩, ?_⟩
  have hnm : ∀ n ∈ ks, n = "" ∨ n ∈ Wd.nms x := fun n hn => by
    rcases List.mem_cons.mp (hks.subset hn) with h | h
    · exact .inl h
    · exact .inr h
  have hCl : ∀ n ∈ ks, (CK x n).length ≤ 200 := fun n hn => by
    have hk := CK_kin ok
    rcases hnm n hn with e | h
    · subst e; rw [hk.2]; have := roots_len x; omega
    · have := agree_len hk.1 h; omega
  refine for_it (walk_list (K := K) (a := ql) (xs := ks.map V.str)) (fun i σ' H' => ∃ (u3 u4 u5 u6 u7 : Option V) (kvs : List (Key × V)) (C : Str → List Str), σ' = [some (.ref d), some (.ref a), some (.ref pd), u3, u4, u5, u6, u7] ∧ SameD d H H' ∧ Deck H' d ∧ H' ql = some (.lst (ks.map V.str)) ∧
    KDn H' d pd ks C kvs ∧ (∀ n ∈ ks, (CK x n).Perm (C n)) ∧ (∀ n c, valV kvs (kS n) = some (.ref c) → n ∈ ks))
    ⟨_, _, _, _, _, kvs0, CK x, rfl, SameD.of (s1.trans s13), d1.same s13, e3, kd1.go d1 (SameD.of s13), fun _ _ => List.Perm.refl _, fun n c h => ?_⟩ ?_ ?_ ?_
  · have h1 := valV_in h
    rw [kd1.ks] at h1
    obtain ⟨y, hy, e⟩ := List.mem_map.mp h1
    cases e
    exact hy
  · rintro i σ' H' _ ⟨u3, u4, u5, u6, u7, kvs, C, rfl, _, _, h, _⟩
    exact .inl (.inl h)
  · rintro i v σ' H1 H2 hi ⟨u3, u4, u5, u6, u7, kvs, C, rfl, sm, dk, hq, kd, hC, hon⟩ ⟨rfl, hv⟩
    have hv : (ks.map V.str)[i]? = some v := hv
    rw [List.getElem?_map] at hv
    obtain ⟨nm, hz, rfl⟩ : ∃ nm, ks[i]? = some nm ∧ v = .str nm := by
      cases hz : ks[i]? with
      | none => rw [hz] at hv; cases hv
      | some nm => rw [hz] at hv; exact ⟨nm, rfl, (Option.some.inj hv).symm⟩
    have hin := List.mem_of_getElem? hz
    obtain ⟨c, hcd, hc1, hc2⟩ := kd.at_ nm hin
    have g := DGet.k (k := kS nm) kd.dk
    rw [hc1] at g
    have hLl : (C nm).length ≤ 200 := by rw [← (hC nm hin).length_eq]; exact hCl nm hin
    refine ⟨_, rfl, _, rfl, _, _, rfl, g, c, _, rfl, .inl (.inl (.inl hc2)), fun b hb => ?_⟩
    have hbd := dk.ne hb
    have hbH : H b = none := sm.free hd dk hb
    generalize hE_H3 : upd H2 b _ = H3
    have e5 := (congrFun hE_H3 b).symm.trans upd_same
    have n5 : ∀ q_, q_ ≠ b → H3 q_ = H2 q_ := by subst hE_H3; exact fun q_ h => upd_ne h
    have s5 : Same H2 H3 := by subst hE_H3; exact same_new hb
    clear hE_H3
    have nqb : ql ≠ b := ne_of_none hq hb
    have I0 : MI d H H3 pd b ks C kvs (C nm) (C nm) := ⟨sm.trans (SameD.of s5), dk.same s5, kd.go dk (SameD.of s5), e5, hbH, fun n c2 h => by
      obtain ⟨c3, _, h4, h5⟩ := kd.at_ n (hon n c2 h)
      rw [h] at h4; cases h4
      exact ne_of_none h5 hb, List.Perm.refl _⟩
    refine ⟨_, rfl, d, 4, rfl, I0.dk, by decide, by decide, fun r H4 hr s6 d6 => ?_⟩
    have I1 := I0.go hbd s6 d6
    have hq4 := s6 _ _ hqld (s5 _ _ hq)
    refine ⟨fun σ' H' => ∃ (b : Addr) (L : List Str), σ' = [some (.ref d), some (.ref a), some (.ref pd), some (.str nm), some (.ref b), some (.int (r : Nat)), u6, u7] ∧ MI d H H' pd b ks C kvs L (C nm) ∧ b ≠ d ∧ ql ≠ b ∧ H' ql = some (.lst (ks.map V.str)), ?_, ?_⟩
    · refine ⟨_, rfl, rfl, _, rfl, ifB (fun _ => ?_) (fun _ => ⟨b, C nm, rfl, I1, hbd, nqb, hq4⟩)⟩
      refine ⟨_, rfl, b, _, rfl, .inl (.inl I1.bb), fun b2 hb2 => ?_⟩
      have hb2d := I1.dk.ne hb2
      have hb2H : H b2 = none := I1.s.free hd I1.dk hb2
      have nq2 : ql ≠ b2 := ne_of_none hq4 hb2
      generalize hE_H5 : upd H4 b2 _ = H5
      have e7 := (congrFun hE_H5 b2).symm.trans upd_same
      have n7 : ∀ q_, q_ ≠ b2 → H5 q_ = H4 q_ := by subst hE_H5; exact fun q_ h => upd_ne h
      have s7 : Same H4 H5 := by subst hE_H5; exact same_new hb2
      clear hE_H5
      refine ⟨b2, (C nm).reverse, rfl, ⟨I1.s.trans (SameD.of s7), I1.dk.same s7, I1.kd.go I1.dk (SameD.of s7), by rw [e7, List.map_reverse], hb2H, fun n c2 h => ?_, (List.reverse_perm _).symm⟩, hb2d, nq2, s7 _ _ hq4⟩
      obtain ⟨c3, _, h4, h5⟩ := I1.kd.at_ n (hon n c2 h)
      rw [h] at h4; cases h4
      exact ne_of_none h5 hb2
    clear I0 I1 hbH hb s5 e5 n5 hbd nqb hq4 s6 d6
    rintro σ' H4 ⟨b, L, rfl, I, hbd, nqb, hq4⟩
    have hLl2 : L.length ≤ 200 := by rw [← I.pm.length_eq]; exact hLl
    refine ⟨fun σ' H' => ∃ (b : Addr) (L : List Str) (u6 : Option V), σ' = [some (.ref d), some (.ref a), some (.ref pd), some (.str nm), some (.ref b), some (.int (r : Nat)), u6, u7] ∧ MI d H H' pd b ks C kvs L (C nm) ∧ b ≠ d ∧ ql ≠ b ∧ H' ql = some (.lst (ks.map V.str)), ?_, ?_⟩
    · refine ⟨_, rfl, rfl, _, rfl, ifB (fun _ => ?_) (fun _ => ⟨b, L, _, rfl, I, hbd, nqb, hq4⟩)⟩
      refine ⟨_, rfl, _, rfl, _, L.length, rfl, .inl ⟨_, .inl (.inl I.bb), by rw [List.length_map]⟩, _, _, rfl, rfl, d, _, rfl, I.dk, by omega, by omega, fun k H5 hk s7 d7 => ?_⟩
      have I5 := I.go hbd s7 d7
      have hq5 := s7 _ _ hqld hq4
      have hkL : k ≤ L.length := by omega
      refine ⟨_, rfl, _, rfl, _, rfl, b, _, rfl, .inl (.inl I5.bb), fun b2 hb2 => ?_⟩
      generalize hE_H6 : upd H5 b2 _ = H6
      have e8 := (congrFun hE_H6 b2).symm.trans upd_same
      have n8 : ∀ q_, q_ ≠ b2 → H6 q_ = H5 q_ := by subst hE_H6; exact fun q_ h => upd_ne h
      have s8 : Same H5 H6 := by subst hE_H6; exact same_new hb2
      clear hE_H6
      rw [cut_rest _ hkL] at e8
      refine ⟨_, rfl, _, rfl, _, rfl, b, _, rfl, .inl (.inl (s8 _ _ I5.bb)), fun b3 hb3 => ?_⟩
      generalize hE_H7 : upd H6 b3 _ = H7
      have e9 := (congrFun hE_H7 b3).symm.trans upd_same
      have n9 : ∀ q_, q_ ≠ b3 → H7 q_ = H6 q_ := by subst hE_H7; exact fun q_ h => upd_ne h
      have s9 : Same H6 H7 := by subst hE_H7; exact same_new hb3
      clear hE_H7
      rw [cut_front _ hkL] at e9
      refine ⟨b2, b3, _, _, rfl, rfl, s9 _ _ e8, e9, ?_, fun b4 hb4 => ?_⟩
      · rw [line, List.length_map, List.length_map, List.length_drop, List.length_take]; omega
      have s57 := s8.trans s9
      have hb4d := (I5.dk.same s57).ne hb4
      have hb45 : H5 b4 = none := s57.free hb4
      have hb4H : H b4 = none := I5.s.free hd I5.dk hb45
      have nq4 : ql ≠ b4 := ne_of_none hq5 hb45
      generalize hE_H8 : upd H7 b4 _ = H8
      have e10 := (congrFun hE_H8 b4).symm.trans upd_same
      have n10 : ∀ q_, q_ ≠ b4 → H8 q_ = H7 q_ := by subst hE_H8; exact fun q_ h => upd_ne h
      have s10 : Same H7 H8 := by subst hE_H8; exact same_new hb4
      clear hE_H8
      have s58 := s57.trans s10
      refine ⟨b4, L.drop k ++ L.take k, _, rfl, ⟨I5.s.trans (SameD.of s58), I5.dk.same s58, I5.kd.go I5.dk (SameD.of s58), by rw [e10, List.map_append], hb4H, fun n c2 h => ?_, ?_⟩, hb4d, nq4, s58 _ _ hq5⟩
      · obtain ⟨c3, _, h4, h5⟩ := I5.kd.at_ n (hon n c2 h)
        rw [h] at h4; cases h4
        exact ne_of_none h5 hb45
      · refine I.pm.trans ?_
        have h2 : (L.take k ++ L.drop k).Perm (L.drop k ++ L.take k) := List.perm_append_comm
        rw [List.take_append_drop] at h2
        exact h2
    clear I hbd nqb hq4 hLl2
    rintro σ' H5 ⟨b, L, u6, rfl, I, hbd, nqb, hq4⟩
    have hLl2 : L.length ≤ 200 := by rw [← I.pm.length_eq]; exact hLl
    refine ⟨fun σ' H' => ∃ (L : List Str) (u7 : Option V), σ' = [some (.ref d), some (.ref a), some (.ref pd), some (.str nm), some (.ref b), some (.int (r : Nat)), u6, u7] ∧ MI d H H' pd b ks C kvs L (C nm) ∧ H' ql = some (.lst (ks.map V.str)), ?_, ?_⟩
    · refine ⟨_, rfl, rfl, _, rfl, ifB (fun _ => ?_) (fun _ => ifE false rfl ⟨L, _, rfl, I, hq4⟩)⟩
      refine ⟨_, rfl, by decide, fun pe hpe => ?_⟩
      have hped := I.dk.ne hpe
      generalize hE_H6 : upd H5 pe _ = H6
      have e7 := (congrFun hE_H6 pe).symm.trans upd_same
      have n7 : ∀ q_, q_ ≠ pe → H6 q_ = H5 q_ := by subst hE_H6; exact fun q_ h => upd_ne h
      have s7 : Same H5 H6 := by subst hE_H6; exact same_new hpe
      clear hE_H6
      have I6 := I.go hbd (SameD.of s7) (I.dk.same s7)
      have hq6 := s7 _ _ hq4
      refine ⟨b, pe, _, rfl, rfl, .inl ⟨.inl (.inl I6.bb), .inl (.inl e7)⟩, _, rfl, ?_⟩
      refine ifB (fun hne => ?_) (fun _ => ⟨L, _, rfl, I6, hq6⟩)
      have hL1 : 1 ≤ L.length := by
        cases L with
        | nil => exact absurd hne (by decide)
        | cons _ _ => simp
      refine ⟨_, rfl, .inl ⟨rfl, _, .inl (.inl I6.bb)⟩, _, rfl, _, rfl, _, L.length, rfl, .inl ⟨_, .inl (.inl I6.bb), by rw [List.length_map]⟩, d, _, rfl, I6.dk, by omega, by omega, fun k H7 hk s8 d8 => ?_⟩
      have I7 := I6.go hbd s8 d8
      have hq7 := s8 _ _ hqld hq6
      have hkL : k < L.length := by omega
      obtain ⟨y, hy⟩ : ∃ y, L[k]? = some y := ⟨_, List.getElem?_eq_getElem hkL⟩
      have hb7 := I7.bb
      refine ⟨b, _, _, k, .str y, rfl, rfl, hb7, by omega, by omega, ?_, by rw [List.getElem?_map, hy]; rfl, ?_⟩
      · unfold seqIndex?
        simp
        omega
      generalize hE_H8 : upd H7 b _ = H8
      have e9 := (congrFun hE_H8 b).symm.trans upd_same
      have n9 : ∀ q_, q_ ≠ b → H8 q_ = H7 q_ := by subst hE_H8; exact fun q_ h => upd_ne h
      have k9 : Kp H7 H8 := by subst hE_H8; exact Kp.mut hb7 (fun z => z)
      have m9 : ∀ H0, Same H0 H7 → H0 b = none → Same H0 H8 := by subst hE_H8; exact fun _ s h => same_mut s h
      clear hE_H8
      have hpm := erase_perm hy
      have e9 : H8 b = some (.lst ((L.eraseIdx k).map V.str)) := by rw [e9, List.eraseIdx_eq_take_drop_succ, List.eraseIdx_eq_take_drop_succ, List.map_append, List.map_take, List.map_drop]
      have d8' : Deck H8 d := I7.dk.mut hbd n9
      have hel : (L.eraseIdx k).length ≤ 200 := by have := hpm.length_eq; rw [List.length_cons] at this; omega
      refine ⟨_, rfl, .inl ⟨rfl, _, .inl (.inl e9)⟩, _, rfl, _, rfl, _, (L.eraseIdx k).length, rfl, .inl ⟨_, .inl (.inl e9), by rw [List.length_map]⟩, _, _, rfl, rfl, d, _, rfl, d8', by omega, by omega, fun k2 H9 hk2 s10 d10 => ?_⟩
      have e9' := s10 _ _ hbd e9
      refine ⟨_, rfl, b, _, _, _, rfl, rfl, e9', by rw [line, List.length_map]; omega, by omega, by omega, ?_⟩
      generalize hE_H10 : upd H9 b _ = H10
      have e11 := (congrFun hE_H10 b).symm.trans upd_same
      have n11 : ∀ q_, q_ ≠ b → H10 q_ = H9 q_ := by subst hE_H10; exact fun q_ h => upd_ne h
      have k11 : Kp H9 H10 := by subst hE_H10; exact Kp.mut e9' (fun z => z)
      have m11 : ∀ H0, Same H0 H9 → H0 b = none → Same H0 H10 := by subst hE_H10; exact fun _ s h => same_mut s h
      clear hE_H10
      rw [show ((k2 : Nat) : Int).toNat = k2 by omega] at e11
      have npdb : pd ≠ b := fun z => by have h := I7.bb; rw [← z, I7.kd.dk] at h; cases h
      refine ⟨(L.eraseIdx k).take k2 ++ y :: (L.eraseIdx k).drop k2, _, rfl, ⟨fun c o hc h => ?_, d10.mut hbd n11, ⟨?_, kd.ks, fun m hm => ?_⟩, ?_, I7.nb, I7.ab, ?_⟩, ?_⟩
      · have h1 := I7.s c o hc h
        have hcb := ne_of_none h I7.nb
        exact (n11 c hcb).trans (s10 _ _ hc ((n9 c hcb).trans h1))
      · exact (n11 pd npdb).trans (s10 _ _ hpdd ((n9 pd npdb).trans I7.kd.dk))
      · obtain ⟨c, h1, h2, h3⟩ := I7.kd.at_ m hm
        have hcb := I7.ab m c h2
        exact ⟨c, h1, h2, (n11 c hcb).trans (s10 _ _ h1 ((n9 c hcb).trans h3))⟩
      · rw [e11, List.map_append, List.map_cons, List.map_take, List.map_drop]
        simp
      · refine I.pm.trans (hpm.trans ?_)
        have h2 : ((L.eraseIdx k).take k2 ++ y :: (L.eraseIdx k).drop k2).Perm (y :: ((L.eraseIdx k).take k2 ++ (L.eraseIdx k).drop k2)) := List.perm_middle
        rw [List.take_append_drop] at h2
        exact h2.symm
      · exact (n11 ql nqb).trans (s10 _ _ hqld ((n9 ql nqb).trans hq7))
    clear I hq4 hLl2
    rintro σ' H6 ⟨L, u7, rfl, I, hq6⟩
    have hk6 := I.kd.dk
    refine ⟨_, rfl, _, rfl, _, rfl, pd, _, rfl, DPut.k (k := kS nm) hk6 (by rw [I.kd.len |> fun h => h, line]; omega), ?_⟩
    generalize hE_H7 : upd H6 pd _ = H7
    have e7 := (congrFun hE_H7 pd).symm.trans upd_same
    have n7 : ∀ q_, q_ ≠ pd → H7 q_ = H6 q_ := by subst hE_H7; exact fun q_ h => upd_ne h
    have k7 : Kp H6 H7 := by subst hE_H7; exact Kp.mut hk6 (fun z => z)
    have m7 : ∀ H0, Same H0 H6 → H0 pd = none → Same H0 H7 := by subst hE_H7; exact fun _ s h => same_mut s h
    clear hE_H7
    obtain ⟨c0, _, hc01, _⟩ := I.kd.at_ nm hin
    have nqp : ql ≠ pd := fun z => by rw [z, I.kd.dk] at hq6; cases hq6
    refine ⟨_, _, _, _, _, putK kvs (kS nm) (.ref b), (fun y => if y = nm then L else C y), rfl, fun c o hc h => (n7 c (ne_of_none h npd)).trans (I.s c o hc h), I.dk.mut hpdd n7, (n7 ql nqp).trans hq6, ⟨e7, by rw [put_keys hc01]; exact kd.ks, fun m hm => ?_⟩, fun m hm => ?_, fun m c h => ?_⟩
    · rw [valV_put]
      by_cases e : m = nm
      · subst e
        refine ⟨b, hbd, by rw [if_pos rfl], ?_⟩
        rw [if_pos rfl]
        exact (n7 b (fun z => by have h := I.bb; rw [z, I.kd.dk] at h; cases h)).trans I.bb
      · rw [if_neg (fun z => e (Sum.inr.inj z)), if_neg e]
        obtain ⟨c, h1, h2, h3⟩ := I.kd.at_ m hm
        exact ⟨c, h1, h2, (n7 c (fun z => by rw [z, I.kd.dk] at h3; cases h3)).trans h3⟩
    · by_cases e : m = nm
      · subst e; show (CK x m).Perm (if m = m then L else C m); rw [if_pos rfl]; exact (hC m hm).trans I.pm
      · show (CK x m).Perm (if m = nm then L else C m); rw [if_neg e]; exact hC m hm
    · rw [valV_put] at h
      by_cases e : m = nm
      · subst e; exact hin
      · rw [if_neg (fun z => e (Sum.inr.inj z))] at h; exact hon m c h
  · rintro σ' H1 ⟨u3, u4, u5, u6, u7, kvs, C, rfl, sm, dk, hq, kd, hC, hon⟩
    obtain ⟨y, kin, hpm⟩ := mixed (C' := C) (CK_kin ok) fun n hn => hC n (hks.symm.subset (by rcases hn with h | h; · rw [h]; exact List.mem_cons_self
                                                                                              · exact List.mem_cons_of_mem _ h))
    have hyl := hpm.length_eq
    have oky : WdOk y := ⟨hpm.nodup_iff.mpr ok.nd, fun n hn => ok.nm n (hpm.subset hn), by omega⟩
    have := dep_le y
    refine ⟨_, rfl, pd, "", (fun n => n ∈ ks), C, y, rfl, kd.kd, hks.symm.subset List.mem_cons_self, fun m hm => hks.symm.subset (List.mem_cons_of_mem _ (hpm.subset hm)), kin.1, kin.2, by omega, by omega, fun p H2 s2 hw => ?_⟩
    exact q p H2 y hw oky hpm (sm.trans (SameD.of s2)) (dk.same s2)
def sgn : En Str → Nat
  | .op _ => 43
  | .cl _ => 45
def spMovedSome (K : PySem.W.Frag) : Sp := fun vs H Q _ => ∃ (d a l : Addr) (x y : Wd Str) (ns : List Str) (m : Nat), vs = [.ref d, .ref a, .ref l, .int (m : Nat)] ∧ Deck H d ∧ WoodAt K H a x ∧ WdOk x ∧ l ≠ d ∧ SqL K H l (ns.map V.str) ∧ 1 ≤ ns.length ∧ ns.length ≤ 1000 ∧ (∀ n ∈ ns, n.length ≤ 100) ∧ m ≤ 1000 ∧
  ∀ p H' y, WoodAt K H' p y → WdOk y → (Wd.nms y).Perm (Wd.nms x) → SameD d H H' → Deck H' d → Q (.ref p) H'
theorem word_of {s : Str} (h : s ∈ (["first", "last", "ahead", "behind", "front", "back"] : List Str)) : ∃ w, wTxt w = s := by
  simp only [List.mem_cons, List.not_mem_nil, or_false] at h
  rcases h with h | h | h | h | h | h
  · exact ⟨.first, h.symm⟩
  · exact ⟨.last, h.symm⟩
  · exact ⟨.ahead, h.symm⟩
  · exact ⟨.behind, h.symm⟩
  · exact ⟨.front, h.symm⟩
  · exact ⟨.back, h.symm⟩
abbrev N_law_moved_some : List Str := ["_law_deck_here", "_law_wood_here", "_law_names_here", "_law_most", "_law_row_here", "_law_k", "_law_one", "_law_other", "_law_word", "_law_found", "_law_still", "_law_deepest", "_law_end"]
theorem sc_law_moved_some : FnScope N_law_moved_some ["_law_deck_here", "_law_wood_here", "_law_names_here", "_law_most"] (defScope (top 58)) := ⟨rfl, rfl, rfl, by decide +kernel, rfl, by decide +kernel, by decide +kernel⟩
theorem cal_law_moved_some (T : Tp K mg) (F : Fnn K mg "_law_moved_some" 58)  (c__law_row : Cal P w K mg base 202 "_law_row" (spRowL K 201)) (c__law_draw : Cal P w K mg base 1 "_law_draw" spDraw) (c__law_pick : Cal P w K mg base 2 "_law_pick" (spPick K)) (c__law_row_moved : Cal P w K mg base 1 "_law_row_moved" (spRowMoved K)) (c__law_from_row : Cal P w K mg base 1 "_law_from_row" (spFromRow K)) : Cal P w K mg base 203 "_law_moved_some" (spMovedSome K) := by
  have nd := sc_law_moved_some.nd
  refine cal F (fun _ _ _ _ _ _ us hl => match us, hl with | [_, _, _, _], _ => rfl) sc_law_moved_some (fun vs H Q E h => by obtain ⟨d, a, l, x, _, ns, m, rfl, hd, hx, ok, hld, hl, hnA, hnB, hnn, hm, q⟩ := h; rfl) (fun f cdv A outer s H vs Q E hr h => ?_)
  have hu := hu_of hr
  refine ⟨_, (pss_cons (ps_set (i := 4) nd rfl (.inl rfl) (pe_cc c__law_row hr (by decide) (by rfl) (pa_cons (pv 1) pa_nil)))
      (pss_cons (ps_for PassesOwn.never rfl (pi_range1 (by rfl) T.b_range (pa_cons (pe_cc c__law_draw hr (by decide) (by rfl) (pa_cons (pv 0) (pa_cons (pe_op op_add (pv 3) pe_int) pa_nil))) pa_nil)) (pg_name (i := 5) nd rfl (.inl rfl)) (pss_cons (ps_par (i := 6) (j := 7) rfl nd rfl rfl (by decide) rfl rfl (pa_cons (pe_cc c__law_pick hr (by decide) (by rfl) (pa_cons (pv 0) (pa_cons (pv 2) pa_nil))) (pa_cons (pe_cc c__law_pick hr (by decide) (by rfl) (pa_cons (pv 0) (pa_cons (pv 2) pa_nil))) pa_nil)) (by rfl))
      (pss_cons (ps_set (i := 8) nd rfl (.inl rfl) (pe_cc c__law_pick hr (by decide) (by rfl) (pa_cons (pv 0) (pa_cons (pe_lst (pa_cons pe_str (pa_cons pe_str (pa_cons pe_str (pa_cons pe_str (pa_cons pe_str (pa_cons pe_str pa_nil))))))) pa_nil))))
      (pss_cons (ps_set (i := 9) nd rfl (.inl rfl) (pe_cc c__law_row_moved hr (by decide) (by rfl) (pa_cons (pv 4) (pa_cons (pe_tup (pa_cons (pv 8) (pa_cons (pv 6) (pa_cons (pv 7) pa_nil)))) pa_nil))))
      (pss_one (ps_if (pt_cmpR op_notN (pv 9) pe_non (nomark _)) (pss_one (ps_set (i := 4) nd rfl (.inl rfl) (pv 9))) pss_nil))))))
      (pss_cons (ps_asg (pe_tup (pa_cons pe_int (pa_cons pe_int pa_nil))) (pg_tup rfl (pgs_cons (pg_name (i := 10) nd rfl (.inl rfl)) (pgs_cons (pg_name (i := 11) nd rfl (.inl rfl)) pgs_nil))))
      (pss_cons (ps_for PassesOwn.never rfl (pi_tup (pv 4)) (pg_name (i := 12) nd rfl (.inl rfl)) (pss_cons (ps_set (i := 10) nd rfl (.inl rfl) (pe_op op_add (pv 10) (pe_ix ix_list (pe_lst (pa_cons (pe_op op_sub pe_int pe_int) (pa_cons pe_int pa_nil))) (pe_callTy call_int1 (by rfl) T.b_int (by decide +kernel) (pa_cons (pe_cmpR op_eq (pe_ix ix_str (pv 12) pe_int (fun _ _ => rfl)) pe_str (nomark _)) pa_nil)) (fun _ _ => rfl))))
      (pss_one (ps_set (i := 11) nd rfl (.inl rfl) (pe_callB (call_max2 rfl) (by rfl) T.b_max (by decide +kernel) (pa_cons (pv 11) (pa_cons (pv 10) pa_nil)))))))
      (pss_one (ps_ret (pe_ifExp (pt_cmpR op_lt (pv 11) pe_int (nomark _)) (pe_cc c__law_from_row hr (by decide) (by rfl) (pa_cons (pv 4) pa_nil)) (pv 1)))))))), ?_⟩
  obtain ⟨d, a, l, x, _, ns, m, rfl, hd, hx, ok, hld, hl, hnA, hnB, hnn, hm, q⟩ := h
  have hdp := dep_le x
  have hlen := ok.len
  refine ⟨_, rfl, a, x, rfl, hx, ok.short, ok.few, by omega, fun p1 H1 s1 h1 => ?_⟩
  have d1 := hd.same s1
  refine ⟨_, rfl, _, rfl, _, _, rfl, rfl, d, _, rfl, d1, by omega, by omega, fun r H2 hr s2 d2 => ⟨_, rfl, by omega, by omega, ?_⟩⟩
  rw [show ((r : Nat) : Int).toNat = r by omega]
  refine for_it (walk_range (lo := 0) (n := r)) (fun i σ' H' => ∃ (p : Addr) (u5 u6 u7 u8 u9 : Option V) (y : Wd Str), σ' = [some (.ref d), some (.ref a), some (.ref l), some (.int (m : Nat)), some (.ref p), u5, u6, u7, u8, u9, none, none, none] ∧ SameD d H H' ∧ Deck H' d ∧ TX H' p (RowV (Wd.row y)) ∧ (Wd.nms y).Perm (Wd.nms x))
    ⟨p1, _, _, _, _, _, x, rfl, (SameD.of s1).trans s2, d2, (s2.kp d1).X h1, List.Perm.refl _⟩ (fun _ _ _ _ _ => trivial) ?_ ?_
  · rintro i v σ' H3 H4 hi ⟨p, u5, u6, u7, u8, u9, y, rfl, sm, dk, hp, hpm⟩ ⟨rfl, rfl⟩
    refine ⟨_, rfl, _, rfl, d, l, ns, rfl, dk, hld, sm.L hld hl, hnA, by omega, fun n1 H5 hn1 s5 d5 => ?_⟩
    have sm5 := sm.trans s5
    refine ⟨_, rfl, _, rfl, d, l, ns, rfl, d5, hld, sm5.L hld hl, hnA, by omega, fun n2 H6 hn2 s6 d6 => ⟨_, _, rfl, ?_⟩⟩
    have sm6 := sm5.trans s6
    refine ⟨_, rfl, by show 6 ≤ sizeLine; decide, fun pw hpw => ?_⟩
    have hpwd := d6.ne hpw
    generalize hE_H7 : upd H6 pw _ = H7
    have e7 := (congrFun hE_H7 pw).symm.trans upd_same
    have n7 : ∀ q_, q_ ≠ pw → H7 q_ = H6 q_ := by subst hE_H7; exact fun q_ h => upd_ne h
    have s7 : Same H6 H7 := by subst hE_H7; exact same_new hpw
    clear hE_H7
    refine ⟨d, pw, ["first", "last", "ahead", "behind", "front", "back"], rfl, d6.same s7, hpwd, .inl (.inl e7), by decide, by decide, fun ws H8 hws s8 d8 => ?_⟩
    obtain ⟨w0, rfl⟩ := word_of hws
    have k48 : Kp H4 H8 := (((s5.kp dk).trans (s6.kp d5)).trans (Kp.of s7)).trans (s8.kp (d6.same s7))
    have sm8 := (sm6.trans (SameD.of s7)).trans s8
    have hy2 : (Wd.row y).length ≤ 100000 := by rw [row_len, hpm.length_eq]; omega
    refine ⟨_, rfl, _, rfl, _, rfl, _, rfl, by show 3 ≤ sizeLine; decide, fun pt hpt => ?_⟩
    generalize hE_H9 : upd H8 pt _ = H9
    have e9 := (congrFun hE_H9 pt).symm.trans upd_same
    have n9 : ∀ q_, q_ ≠ pt → H9 q_ = H8 q_ := by subst hE_H9; exact fun q_ h => upd_ne h
    have s9 : Same H8 H9 := by subst hE_H9; exact same_new hpt
    clear hE_H9
    have hpt3 : SqT K H9 pt [.str (wTxt w0), .str n1, .str n2] := .inl (.inl e9)
    have hnd : (Wd.nms y).Nodup := hpm.nodup_iff.mpr ok.nd
    refine ⟨p, pt, y, _, ⟨w0, n1, n2⟩, rfl, (k48.X hp).same s9, ⟨hpt3, rfl, rfl, fun _ => rfl⟩, ⟨hnn _ hn1, hnn _ hn2⟩, hy2, fun H10 hno s10 => ?_, fun l2 p2 H10 hmv s10 h10 => ?_⟩
    · refine ⟨_, rfl, rfl, _, rfl, ?_⟩
      have s810 := s9.trans s10
      exact ⟨p, _, _, _, _, _, y, rfl, sm8.trans (SameD.of s810), d8.same s810, (k48.X hp).same s810, hpm⟩
    · refine ⟨_, rfl, rfl, _, rfl, _, rfl, ?_⟩
      obtain ⟨y2, rfl, hp2⟩ := mvd_wood hnd hmv
      have s810 := s9.trans s10
      exact ⟨p2, _, _, _, _, _, y2, rfl, sm8.trans (SameD.of s810), d8.same s810, h10, hp2.trans hpm⟩
  · rintro σ' H3 ⟨p, u5, u6, u7, u8, u9, y, rfl, sm, dk, hp, hpm⟩
    have hyl := hpm.length_eq
    have oky : WdOk y := ⟨hpm.nodup_iff.mpr ok.nd, fun n hn => ok.nm n (hpm.subset hn), by omega⟩
    refine ⟨by show 2 ≤ sizeLine; decide, fun pt hpt => ?_⟩
    generalize hE_H4 : upd H3 pt _ = H4
    have e4 := (congrFun hE_H4 pt).symm.trans upd_same
    have n4 : ∀ q_, q_ ≠ pt → H4 q_ = H3 q_ := by subst hE_H4; exact fun q_ h => upd_ne h
    have s4 : Same H3 H4 := by subst hE_H4; exact same_new hpt
    clear hE_H4
    refine ⟨pt, _, rfl, .inl (.inl e4), rfl, _, _, rfl, _, _, rfl, rfl, ?_⟩
    have hp4 := hp.same s4
    refine ⟨_, rfl, p, rfl, ⟨_, hp4.sq⟩, ?_⟩
    refine for_it (walk_tup (K := K) (a := p) (xs := RowV (Wd.row y))) (fun i σ' H' => ∃ (u12 : Option V) (st dp : Int), σ' = [some (.ref d), some (.ref a), some (.ref l), some (.int (m : Nat)), some (.ref p), u5, u6, u7, u8, u9, some (.int st), some (.int dp), u12] ∧ Same H4 H') ⟨_, 0, 0, rfl, Same.refl _⟩ ?_ ?_ ?_
    · rintro i σ' H' _ ⟨u12, st, dp, rfl, s⟩
      exact (hp4.same s).sq
    · rintro i v σ' H5 H6 hi ⟨u12, st, dp, rfl, s⟩ ⟨rfl, hv⟩
      have hi2 : i < (Wd.row y).length := by rw [RowV_len] at hi; exact hi
      obtain ⟨e, he⟩ : ∃ e, (Wd.row y)[i]? = some e := ⟨_, List.getElem?_eq_getElem hi2⟩
      have hve : v = eV e := by
        have := RowV_get he
        rw [this] at hv
        exact (Option.some.inj hv).symm
      subst hve
      have hl2 := enc_len (List.mem_of_getElem? he) oky.short
      refine ⟨_, rfl, _, _, rfl, rfl, by show 2 ≤ sizeLine; decide, fun pl hpl => ?_⟩
      generalize hE_H7 : upd H6 pl _ = H7
      have e7 := (congrFun hE_H7 pl).symm.trans upd_same
      have n7 : ∀ q_, q_ ≠ pl → H7 q_ = H6 q_ := by subst hE_H7; exact fun q_ h => upd_ne h
      have s7 : Same H6 H7 := by subst hE_H7; exact same_new hpl
      clear hE_H7
      refine ⟨_, rfl, _, _, sgn e, rfl, rfl, by rw [line]; omega, ?_, rfl, .inr ⟨_, rfl, ?_⟩⟩
      · rw [enc_cps]; cases e <;> exact atI_nat (j := 0) rfl
      have hv2 : ∃ v : Int, atI [V.int (0 - 1), V.int 1] (if decide (V.str ⟨#[sgn e]⟩ = V.str "+") = true then 1 else 0) = some (.int v) := by
        cases e with
        | op n => exact ⟨1, by rw [if_pos (show decide (V.str ⟨#[sgn (.op n)]⟩ = V.str "+") = true from decide_eq_true rfl)]; rfl⟩
        | cl n => exact ⟨-1, by rw [if_neg (show ¬ decide (V.str ⟨#[sgn (.cl n)]⟩ = V.str "+") = true from (show ¬ decide (V.str ⟨#[45]⟩ = V.str "+") = true by decide))]; rfl⟩
      obtain ⟨v, hv2⟩ := hv2
      refine ⟨pl, _, _, _, rfl, rfl, .inl (.inl e7), hv2, _, _, rfl, rfl, ?_⟩
      exact ⟨_, rfl, _, rfl, _, _, rfl, _, _, _, rfl, s.trans s7⟩
    · rintro σ' H5 ⟨u12, st, dp, rfl, s⟩
      have s35 := s4.trans s
      refine ⟨_, rfl, _, _, rfl, rfl, _, rfl, ifB (fun _ => ?_) (fun _ => ?_)⟩
      · refine ⟨_, rfl, p, y, rfl, hp.same s35, oky.short, oky.few, fun p2 H6 s6 h6 => ?_⟩
        exact q p2 H6 y h6 oky hpm (sm.trans (SameD.of (s35.trans s6))) (dk.same (s35.trans s6))
      · exact ⟨_, rfl, q a H5 x (hx.same ((sm.kp hd).trans (Kp.of s35))) ok (List.Perm.refl _) (sm.trans (SameD.of s35)) (dk.same s35)⟩
end
end K76
/-! text W20 -/
set_option Elab.async false
set_option linter.all false
set_option maxRecDepth 100000
set_option maxHeartbeats 1000000
namespace K76
open PySem PySem.Spec PyProof.Rows L2
def spTwo (K : PySem.W.Frag) : Sp := fun vs H Q _ => ∃ (d : Addr), vs = [.ref d, .int 20] ∧ Deck H d ∧ ∀ p H' a b x y, H' p = some (.lst [.ref a, .ref b]) → p ≠ d → WoodAt K H' a x → WoodAt K H' b y → WdOk x → WdOk y → (Wd.nms x).Perm (Wd.nms y) → SameD d H H' → Deck H' d → Q (.ref p) H'
section
variable {P : Program} {w : World} {K : PySem.W.Frag} {mg : Str → Option Value} {base : Heap}
abbrev N_law_two_woods : List Str := ["_law_deck_here", "_law_most", "_law_way", "_law_wood_here", "_law_names_here", "_law_end", "_law_other"]
theorem sc_law_two_woods : FnScope N_law_two_woods ["_law_deck_here", "_law_most"] (defScope (top 59)) := ⟨rfl, rfl, rfl, by decide +kernel, rfl, by decide +kernel, by decide +kernel⟩
theorem cal_law_two_woods (T : Tp K mg) (F : Fnn K mg "_law_two_woods" 59)  (c__law_draw : Cal P w K mg base 1 "_law_draw" spDraw) (c__law_some_wood : Cal P w K mg base 205 "_law_some_wood" (spSomeWood K)) (c__law_row : Cal P w K mg base 202 "_law_row" (spRowL K 201)) (c__law_wood : Cal P w K mg base 203 "_law_wood" (spWood K)) (c__law_mixed_kids : Cal P w K mg base 203 "_law_mixed_kids" (spMixed K)) (c__law_moved_some : Cal P w K mg base 203 "_law_moved_some" (spMovedSome K)) : Cal P w K mg base 206 "_law_two_woods" (spTwo K) := by
  have nd := sc_law_two_woods.nd
  refine cal F (fun _ _ _ _ _ _ us hl => match us, hl with | [_, _], _ => rfl) sc_law_two_woods (fun vs H Q E h => by obtain ⟨d, rfl, hd, q⟩ := h; rfl) (fun f cdv A outer s H vs Q E hr h => ?_)
  have hu := hu_of hr
  refine ⟨_, (pss_cons (ps_par (i := 2) (j := 3) rfl nd rfl rfl (by decide) rfl rfl (pa_cons (pe_cc c__law_draw hr (by decide) (by rfl) (pa_cons (pv 0) (pa_cons pe_int pa_nil))) (pa_cons (pe_cc c__law_some_wood hr (by decide) (by rfl) (pa_cons (pv 0) pa_nil)) pa_nil)) (by rfl))
      (pss_cons (ps_setLc (i := 4) (own := [("_law_end", 5)]) rfl nd rfl rfl (sw_true rfl rfl rfl (by decide +kernel)) (pi_tup (pe_cc c__law_row hr (by decide) (by rfl) (pa_cons (pv 3) pa_nil))) (blkOk_by (own := [("_law_end", 5)]) (N := N_law_two_woods) (sc := defScope (top 59)) (by decide +kernel)) (fun _ _ _ _ _ => (pg_name (i := 5) nd rfl (.inl rfl))) (fun _ _ _ _ _ => (pts_one (pt_cmpR op_eq (pe_ix ix_str (pv 5) pe_int (fun _ _ => rfl)) pe_str (nomark _)))) (fun _ _ _ _ _ => (pe_slice C8.sl_txt (pv 5) (po_some pe_int) po_none)))
      (C8.pss_cut (ps_if (PW.pt (pw_and (pt_cmpR op_eq (pv 2) pe_int (nomark _)) (pw_and1 (pt_cmpR op_lt (pe_callB call_len (by rfl) T.b_len (by decide +kernel) (pa_cons (pv 4) pa_nil)) pe_int (nomark _))))) (pss_one (ps_ret (pe_lst (pa_cons (pv 3) (pa_cons (pe_cc c__law_wood hr (by decide) (by rfl) (pa_cons (pv 0) (pa_cons (pe_revL (pv 4)) pa_nil))) pa_nil))))) pss_nil)
      (pss_cons (ps_set (i := 6) nd rfl (.inl rfl) (pv 3))
      (C8.pss_cut (ps_if (pt_cmpR op_gt (pv 2) pe_int (nomark _)) (pss_one (ps_set (i := 6) nd rfl (.inl rfl) (pe_cc c__law_mixed_kids hr (by decide) (by rfl) (pa_cons (pv 0) (pa_cons (pv 3) pa_nil))))) pss_nil)
      (C8.pss_cut (ps_if (PW.pt (pw_and (pt_cmpR op_lt (pv 2) pe_int (nomark _)) (pw_and1 (pt_cmpR (op_ne0 hr.units0) (pv 4) (pe_lst pa_nil) (nomark _))))) (pss_one (ps_set (i := 6) nd rfl (.inl rfl) (pe_cc c__law_moved_some hr (by decide) (by rfl) (pa_cons (pv 0) (pa_cons (pv 6) (pa_cons (pv 4) (pa_cons (pv 1) pa_nil))))))) pss_nil)
      (pss_one (ps_ret (pe_lst (pa_cons (pv 3) (pa_cons (pv 6) pa_nil))))))))))), ?_⟩
  obtain ⟨d, rfl, hd, q⟩ := h
  refine ⟨_, rfl, d, 4, rfl, hd, by decide, by decide, fun r H1 hr s1 d1 => ⟨_, rfl, d, rfl, d1, fun a H2 x hx ok s2 d2 => ⟨_, _, rfl, ?_⟩⟩⟩
  have s12 := s1.trans s2
  have hdp := dep_le x
  have hlen := ok.len
  refine ⟨_, rfl, a, x, rfl, hx, ok.short, ok.few, by omega, fun p H3 s3 h1 => ⟨p, rfl, ⟨_, h1.sq⟩, fun D hD => ?_⟩⟩
  have d3 := d2.same s3
  have hDd := d3.ne hD
  refine lc_mapK (Wd.row x) eV (fun e => .str (match e with
    | .op n => n
    | .cl n => n)) (fun e => match e with
    | .op _ => true
    | .cl _ => false) (walk_tup (K := K) (a := p) (xs := RowV (Wd.row x))) (RowV_len _) ?_ hD ?_ (fun H s => (h1.same s).sq) ?_ ?_
  · rw [show RowV (Wd.row x) = (Wd.row x).map eV by simp [RowV]]
    exact yat _ _
  · rw [row_len]; omega
  · intro i e H4 Qn Qf hi s4 k1 k2
    have hl := enc_len (List.mem_of_getElem? hi) ok.short
    refine ⟨rfl, _, rfl, _, _, sgn e, rfl, rfl, by rw [line]; omega, ?_, rfl, _, rfl, ?_⟩
    · rw [enc_cps]; cases e <;> exact atI_nat (j := 0) rfl
    · cases e with
      | op n =>
        refine ifY rfl ⟨_, rfl, _, rfl, _, rfl, by rw [line]; omega, ?_⟩
        rw [enc_tail]
        exact k1 H4 (Same.refl _) rfl
      | cl n => exact ifN (show (⟨#[45]⟩ : Str) ≠ "+" by decide) (k2 H4 (Same.refl _) rfl)
  intro H4 s4 hl4
  have hl4 : H4 D = some (.lst ((Wd.nms x).map V.str)) := by
    rw [hl4, ← ops_row, ← ops_filter, List.map_map]
    rfl
  have s34 := s3.trans s4
  have hx4 := hx.same (Kp.of s34)
  have d4 := d2.same s34
  have s04 : SameD d H H4 := s12.trans (SameD.of s34)
  refine ⟨fun σ' H' => σ' = [some (.ref d), some (.int 20), some (.int (r : Nat)), some (.ref a), some (.ref D), none, none] ∧ H' = H4, ?_, ?_⟩
  · refine ⟨_, rfl, rfl, _, rfl, ifB (fun _ => ?_) (fun _ => ifE false rfl ⟨rfl, rfl⟩)⟩
    refine ⟨_, rfl, _, (Wd.nms x).length, rfl, .inl ⟨_, .inl (.inl hl4), by rw [List.length_map]⟩, _, _, rfl, rfl, _, rfl, ifB (fun _ => ?_) (fun _ => ⟨rfl, rfl⟩)⟩
    refine ⟨_, rfl, _, rfl, _, rfl, D, _, rfl, .inl (.inl hl4), fun p5 hp5 => ?_⟩
    have hp5d := d4.ne hp5
    generalize hE_H5 : upd H4 p5 _ = H5
    have e5 := (congrFun hE_H5 p5).symm.trans upd_same
    have n5 : ∀ q_, q_ ≠ p5 → H5 q_ = H4 q_ := by subst hE_H5; exact fun q_ h => upd_ne h
    have s5 : Same H4 H5 := by subst hE_H5; exact same_new hp5
    clear hE_H5
    refine ⟨d, p5, (Wd.nms x).reverse, rfl, d4.same s5, hp5d, .inl (.inl (by rw [e5, List.map_reverse])), nodup_rev.mpr ok.nd, fun n hn => ok.nm n (List.mem_reverse.mp hn), by rw [List.length_reverse]; omega, fun b H6 y hy oky hpm s6 d6 => ?_⟩
    refine ⟨by show 2 ≤ sizeLine; decide, fun pl hpl => ?_⟩
    have hpld := d6.ne hpl
    generalize hE_H7 : upd H6 pl _ = H7
    have e7 := (congrFun hE_H7 pl).symm.trans upd_same
    have n7 : ∀ q_, q_ ≠ pl → H7 q_ = H6 q_ := by subst hE_H7; exact fun q_ h => upd_ne h
    have s7 : Same H6 H7 := by subst hE_H7; exact same_new hpl
    clear hE_H7
    have k46 := (Kp.of s5).trans (s6.kp (d4.same s5))
    exact q pl H7 a b x y e7 hpld (hx4.same (k46.trans (Kp.of s7))) (hy.same (Kp.of s7)) ok oky (hpm.trans (List.reverse_perm _)).symm ((s04.trans (SameD.of s5)).trans (s6.trans (SameD.of s7))) (d6.same s7)
  rintro σ' H5 ⟨rfl, rfl⟩
  refine ⟨_, rfl, ?_⟩
  refine ⟨fun σ' H' => ∃ (b : Addr) (y : Wd Str), σ' = [some (.ref d), some (.int 20), some (.int (r : Nat)), some (.ref a), some (.ref D), none, some (.ref b)] ∧ SameD d H5 H' ∧ Deck H' d ∧ WoodAt K H' b y ∧ WdOk y ∧ (Wd.nms y).Perm (Wd.nms x), ?_, ?_⟩
  · refine ⟨_, rfl, _, _, rfl, rfl, _, rfl, ifB (fun _ => ?_) (fun _ => ⟨a, x, rfl, SameD.refl _ _, d4, hx4, ok, List.Perm.refl _⟩)⟩
    exact ⟨_, rfl, _, rfl, d, a, x, rfl, d4, hx4, ok, fun b H6 y hy oky hpm s6 d6 => ⟨b, y, rfl, s6, d6, hy, oky, hpm⟩⟩
  rintro σ' H6 ⟨b, y, rfl, s6, d6, hy, oky, hpm⟩
  have hl6 := s6 _ _ hDd hl4
  have hx6 := hx4.same (s6.kp d4)
  refine ⟨fun σ' H' => ∃ (b : Addr) (y : Wd Str), σ' = [some (.ref d), some (.int 20), some (.int (r : Nat)), some (.ref a), some (.ref D), none, some (.ref b)] ∧ SameD d H6 H' ∧ Deck H' d ∧ WoodAt K H' b y ∧ WdOk y ∧ (Wd.nms y).Perm (Wd.nms x), ?_, ?_⟩
  · refine ⟨_, rfl, _, _, rfl, rfl, _, rfl, ifB (fun _ => ?_) (fun _ => ifE false rfl ⟨b, y, rfl, SameD.refl _ _, d6, hy, oky, hpm⟩)⟩
    refine ⟨_, rfl, by decide, fun pe hpe => ?_⟩
    generalize hE_H7 : upd H6 pe _ = H7
    have e7 := (congrFun hE_H7 pe).symm.trans upd_same
    have n7 : ∀ q_, q_ ≠ pe → H7 q_ = H6 q_ := by subst hE_H7; exact fun q_ h => upd_ne h
    have s7 : Same H6 H7 := by subst hE_H7; exact same_new hpe
    clear hE_H7
    refine ⟨D, pe, _, rfl, rfl, .inl ⟨.inl (.inl (s7 _ _ hl6)), .inl (.inl e7)⟩, _, rfl, ?_⟩
    refine ifB (fun hne => ?_) (fun _ => ⟨b, y, rfl, SameD.of s7, d6.same s7, hy.same (Kp.of s7), oky, hpm⟩)
    have hn1 : 1 ≤ (Wd.nms x).length := by
      cases e : Wd.nms x with
      | nil => rw [e] at hne; exact absurd hne (by decide)
      | cons _ _ => simp
    refine ⟨_, rfl, _, rfl, _, rfl, _, rfl, d, b, D, y, x, Wd.nms x, 20, rfl, d6.same s7, hy.same (Kp.of s7), oky, hDd, .inl (.inl (s7 _ _ hl6)), hn1, by omega, ok.short, by decide, fun p8 H8 z hz okz hpz s8 d8 => ?_⟩
    exact ⟨p8, z, rfl, (SameD.of s7).trans s8, d8, hz, okz, hpz.trans hpm⟩
  rintro σ' H7 ⟨b, y, rfl, s7, d7, hy, oky, hpm⟩
  refine ⟨_, rfl, _, rfl, by show 2 ≤ sizeLine; decide, fun pl hpl => ?_⟩
  have hpld := d7.ne hpl
  generalize hE_H8 : upd H7 pl _ = H8
  have e8 := (congrFun hE_H8 pl).symm.trans upd_same
  have n8 : ∀ q_, q_ ≠ pl → H8 q_ = H7 q_ := by subst hE_H8; exact fun q_ h => upd_ne h
  have s8 : Same H7 H8 := by subst hE_H8; exact same_new hpl
  clear hE_H8
  exact q pl H8 a b x y e8 hpld (hx6.same ((s7.kp d6).trans (Kp.of s8))) (hy.same (Kp.of s8)) ok oky hpm.symm (((s04.trans s6).trans s7).trans (SameD.of s8)) (d7.same s8)
end
end K76
/-! text W21 -/
set_option Elab.async false
set_option linter.all false
set_option maxRecDepth 100000
set_option maxHeartbeats 1000000
namespace K76
open PySem PySem.Spec PyProof.Rows L2
def spIsMove (K : PySem.W.Frag) : Sp := fun vs H Q _ => ∃ (a : Addr) (d : Mv Str), vs = [.ref a] ∧ SqT K H a (mvV d) ∧ Ans H (.bl true) Q
def spLeads (K : PySem.W.Frag) : Sp := fun vs H Q _ => ∃ (a b c : Addr) (x y : Wd Str) (ds : List (Mv Str)), vs = [.ref a, .ref b, .ref c] ∧ WoodAt K H a x ∧ WoodAt K H b y ∧ WdOk x ∧ WdOk y ∧ MvsAt K H c ds ∧ (∀ d ∈ ds, Shrt d) ∧ Ans H (.bl (decide (mvAll (Wd.row x) ds = some (Wd.row y)))) Q
theorem map_enc_inj {l m : List (En Str)} (h : l.map enc = m.map enc) : l = m := by
  induction l generalizing m with
  | nil => cases m with
    | nil => rfl
    | cons _ _ => cases h
  | cons a l ih => cases m with
    | nil => cases h
    | cons b m =>
      injection h with h1 h2
      rw [enc_inj h1, ih h2]
theorem rows_eqv (l m : List (En Str)) : PyData.eqv (.tuple ((l.map enc).map .str)) (.tuple ((m.map enc).map .str)) = decide (l = m) := by
  rw [PyData.eqv, eqv_strs]
  by_cases h : l = m
  · subst h; simp
  · rw [decide_eq_false h, decide_eq_false fun e => h (map_enc_inj e)]
def OvAt (H : Hp) (a : Addr) (x : Wd Str) : Prop := ∃ (kvs : List (Key × V)) (os : List Str), H a = some (.dK kvs) ∧ kvs.map (·.1) = os.map kS ∧ os.Perm (Wd.nms x) ∧ ∀ n p, (n, p) ∈ Wd.prs none x → valV kvs (kS n) = some (.str (p.getD ""))
theorem OvAt.same {H H' : Hp} {a : Addr} {x : Wd Str} (s : Same H H') (h : OvAt H a x) : OvAt H' a x := let ⟨k, o, e, r⟩ := h; ⟨k, o, s _ _ e, r⟩
def spOvers (K : PySem.W.Frag) : Sp := fun vs H Q _ => ∃ (a : Addr) (x : Wd Str), vs = [.ref a] ∧ WoodAt K H a x ∧ WdOk x ∧ ∀ p H', H p = none → Same H H' → OvAt H' p x → Q (.ref p) H'
theorem mem_CK {x : Wd Str} {n q : Str} : n ∈ CK x q ↔ (n, if q = "" then none else some q) ∈ Wd.prs none x := by unfold CK; exact mem_kidsL
theorem CK_one {x : Wd Str} (ok : WdOk x) {n q q' : Str} (h : n ∈ CK x q) (h' : n ∈ CK x q') : q = q' := by
  have e := nodup_snd (prs_nd ok) (mem_CK.mp h) (mem_CK.mp h')
  by_cases c : q = "" <;> by_cases c' : q' = ""
  · rw [c, c']
  · rw [if_pos c, if_neg c'] at e; cases e
  · rw [if_neg c, if_pos c'] at e; cases e
  · rw [if_neg c, if_neg c'] at e; exact Option.some.inj e
structure OI (fvs : List (Key × V)) (os : List Str) (M : Str → Str → Prop) : Prop where
  ks : fvs.map (·.1) = os.map kS
  nd : os.Nodup
  val : ∀ n q, M n q → valV fvs (kS n) = some (.str q)
  src : ∀ n ∈ os, ∃ q, M n q
theorem OI.put {fvs : List (Key × V)} {os : List Str} {M M' : Str → Str → Prop} (I : OI fvs os M) {n q : Str} (hM : ∀ a b, M a b → M' a b) (hn : M' n q) (hon : ∀ a b, M' a b → M a b ∨ (a = n ∧ b = q)) (un : ∀ b, M n b → b = q) :
    ∃ os', OI (putK fvs (kS n) (.str q)) os' M' ∧ os'.length ≤ os.length + 1 := by
  have hval : ∀ a b, M' a b → valV (putK fvs (kS n) (.str q)) (kS a) = some (.str b) := fun a b h => by
    rw [valV_put]
    by_cases c : a = n
    · subst c
      rw [if_pos rfl]
      rcases hon a b h with h | ⟨_, h⟩
      · rw [un b h]
      · rw [h]
    · rw [if_neg fun z => c (Sum.inr.inj z)]
      rcases hon a b h with h | ⟨h, _⟩
      · exact I.val a b h
      · exact absurd h c
  cases hv : valV fvs (kS n) with
  | some u => exact ⟨os, ⟨by rw [put_keys hv]; exact I.ks, I.nd, hval, fun a ha => let ⟨b, h⟩ := I.src a ha; ⟨b, hM a b h⟩⟩, by omega⟩
  | none =>
    have hno : n ∉ os := fun h => by
      obtain ⟨b, hb⟩ := I.src n h
      rw [I.val n b hb] at hv; cases hv
    refine ⟨os ++ [n], ⟨by rw [putK_new _ hv, List.map_append, I.ks, List.map_append]; rfl, ?_, hval, fun a ha => ?_⟩, by rw [List.length_append]; exact Nat.le_refl _⟩
    · rw [List.nodup_append]
      refine ⟨I.nd, by simp, fun a ha b hb => ?_⟩
      rw [List.mem_singleton] at hb
      subst hb
      exact fun e => hno (e ▸ ha)
    · rcases List.mem_append.mp ha with h | h
      · obtain ⟨b, hb⟩ := I.src a h; exact ⟨b, hM a b hb⟩
      · rw [List.mem_singleton] at h; subst h; exact ⟨q, hn⟩
section
variable {P : Program} {w : World} {K : PySem.W.Frag} {mg : Str → Option Value} {base : Heap}
abbrev N_law_is_move : List Str := ["_law_deed", "_law_name_here"]
theorem sc_law_is_move : FnScope N_law_is_move ["_law_deed"] (defScope (top 60)) := ⟨rfl, rfl, rfl, by decide +kernel, rfl, by decide +kernel, by decide +kernel⟩
theorem cal_law_is_move (T : Tp K mg) (F : Fnn K mg "_law_is_move" 60)   : Cal P w K mg base 1 "_law_is_move" (spIsMove K) := by
  have nd := sc_law_is_move.nd
  refine cal F (fun _ _ _ _ _ _ us hl => match us, hl with | [_], _ => rfl) sc_law_is_move (fun vs H Q E h => by obtain ⟨a, d, rfl, ha, q⟩ := h; rfl) (fun f cdv A outer s H vs Q E hr h => ?_)
  have hu := hu_of hr
  refine ⟨_, (pss_cons (ps_if (PW.pt (pw_or (pt_not (pt_val (pe_callB call_isi (by rfl) T.b_isinstance (by decide +kernel) (pa_cons (pv 0) (pa_cons (pe_bltn (v := .ty "tuple") (by rfl) T.b_tuple (by decide +kernel) rfl) pa_nil))))) (pw_or (pt_cmpR (op_eq0 hr.units0) (pv 0) (pe_tup pa_nil) (nomark _)) (pw_or1 (pt_not (pt_val (pe_callB call_isi (by rfl) T.b_isinstance (by decide +kernel) (pa_cons (pe_ix ix_tup (pv 0) pe_int (fun _ _ => rfl)) (pa_cons (pe_bltn (v := .ty "str") (by rfl) T.b_str (by decide +kernel) rfl) pa_nil))))))))) (pss_one (ps_ret pe_bl)) pss_nil)
      (pss_cons (ps_if (pt_cmpR op_notIn_seq (pe_ix ix_tup (pv 0) pe_int (fun _ _ => rfl)) (pe_tup (pa_cons pe_str (pa_cons pe_str (pa_cons pe_str (pa_cons pe_str (pa_cons pe_str (pa_cons pe_str pa_nil))))))) rfl) (pss_one (ps_ret pe_bl)) pss_nil)
      (pss_cons (ps_if (pt_cmpR op_ne (pe_callB call_len (by rfl) T.b_len (by decide +kernel) (pa_cons (pv 0) pa_nil)) (pe_op op_sub pe_int (pe_callTy call_int1 (by rfl) T.b_int (by decide +kernel) (pa_cons (pe_cmpR op_in_seq (pe_ix ix_tup (pv 0) pe_int (fun _ _ => rfl)) (pe_tup (pa_cons pe_str (pa_cons pe_str pa_nil))) rfl) pa_nil))) (nomark _)) (pss_one (ps_ret pe_bl)) pss_nil)
      (pss_one (ps_ret (pe_cmpR (op_eq0 hr.units0) (pe_lc (own := [("_law_name_here", 1)]) rfl nd (pi_tup (pe_slice sl_tupA (pv 0) (po_some pe_int) po_none)) (blkOk_by (own := [("_law_name_here", 1)]) (N := N_law_is_move) (sc := defScope (top 60)) (by decide +kernel)) (fun _ _ _ _ _ => (pg_name (i := 1) nd rfl (.inl rfl))) (fun _ _ _ _ _ => (pts_one (pt_not (pt_val (pe_callB (call_isiK2 (K := K) rfl) (by rfl) T.b_isinstance (by decide +kernel) (pa_cons (pv 1) (pa_cons (pe_bltn (v := .ty "str") (by rfl) T.b_str (by decide +kernel) rfl) pa_nil))))))) (fun _ _ _ _ _ => (pv 1))) (pe_lst pa_nil) (nomark _))))))), ?_⟩
  obtain ⟨a, d, rfl, ha, q⟩ := h
  refine ⟨_, rfl, _, _, .type "tuple", _, true, rfl, .ty "tuple", tyT ha, kit_ty (by decide +kernel), _, rfl, ?_⟩
  refine ⟨_, rfl, by decide, fun p hp => ?_⟩
  generalize hE_H1 : upd H p _ = H1
  have e1 := (congrFun hE_H1 p).symm.trans upd_same
  have n1 : ∀ q_, q_ ≠ p → H1 q_ = H q_ := by subst hE_H1; exact fun q_ h => upd_ne h
  have s1 : Same H H1 := by subst hE_H1; exact same_new hp
  clear hE_H1
  have ha1 := sameT s1 ha
  refine ⟨a, p, _, rfl, rfl, .inr ⟨ha1, .inl (.inl e1)⟩, _, rfl, ifE false (mv_ne d) ?_⟩
  refine ⟨_, rfl, a, _, _, _, rfl, rfl, ha1, mv0 d, _, _, .type "str", _, true, rfl, .ty "str", .base (.str _), kit_ty (by decide +kernel), _, rfl, ?_⟩
  refine ⟨_, rfl, a, _, _, _, rfl, rfl, ha1, mv0 d, by show 6 ≤ sizeLine; decide, fun p2 hp2 => ?_⟩
  generalize hE_H2 : upd H1 p2 _ = H2
  have e2 := (congrFun hE_H2 p2).symm.trans upd_same
  have n2 : ∀ q_, q_ ≠ p2 → H2 q_ = H1 q_ := by subst hE_H2; exact fun q_ h => upd_ne h
  have s2 : Same H1 H2 := by subst hE_H2; exact same_new hp2
  clear hE_H2
  have ha2 := sameT s2 ha1
  refine ⟨p2, _, rfl, .inr (.inl (.inl e2)), rfl, rfl, _, rfl, ifE false (by cases d.w <;> rfl) ?_⟩
  refine ⟨_, rfl, _, _, rfl, .inr ⟨_, ha2, rfl⟩, _, rfl, a, _, _, _, rfl, rfl, ha2, mv0 d, by show 2 ≤ sizeLine; decide, fun p3 hp3 => ?_⟩
  generalize hE_H3 : upd H2 p3 _ = H3
  have e3 := (congrFun hE_H3 p3).symm.trans upd_same
  have n3 : ∀ q_, q_ ≠ p3 → H3 q_ = H2 q_ := by subst hE_H3; exact fun q_ h => upd_ne h
  have s3 : Same H2 H3 := by subst hE_H3; exact same_new hp3
  clear hE_H3
  have ha3 := sameT s3 ha2
  refine ⟨p3, _, rfl, .inr (.inl (.inl e3)), rfl, rfl, .inr ⟨_, rfl, _, _, rfl, rfl, rfl, _, rfl, ifE false ?_ ?_⟩⟩
  · rw [mv_len]
    show (!decide (V.int ((if needB d.w = true then 3 else 2 : Nat) : Int) = V.int ((3 : Int) - if inV (V.str (wTxt d.w)) [V.str "front", V.str "back"] = true then 1 else 0))) = false
    cases d.w <;> decide
  have cut : cutV (mvV d) (some 1) none = (mvS d).tail.map V.str := by
    unfold mvV mvS
    split <;> rfl
  have hno : ¬ (HT.sIx (mvV d).length 0 (some 1) = 0 ∧ HT.sIx (mvV d).length (mvV d).length none = (mvV d).length) := fun z => absurd z.1 (by unfold mvV mvS; split <;> exact fun h => nomatch h)
  refine ⟨_, rfl, _, rfl, a, _, rfl, ha3, fun z => absurd z hno, fun _ p4 hp4 => ?_⟩
  rw [cut]
  generalize hE_H4 : upd H3 p4 _ = H4
  have e4 := (congrFun hE_H4 p4).symm.trans upd_same
  have n4 : ∀ q_, q_ ≠ p4 → H4 q_ = H3 q_ := by subst hE_H4; exact fun q_ h => upd_ne h
  have s4 : Same H3 H4 := by subst hE_H4; exact same_new hp4
  clear hE_H4
  refine ⟨p4, rfl, ⟨_, .inl (.inl e4)⟩, fun D hD => ?_⟩
  refine lc_mapK (mvS d).tail V.str V.str (fun _ => false) (walk_tup (K := K) (a := p4) (xs := (mvS d).tail.map V.str)) (by simp) (yat _ _) hD ?_ (fun H s => .inl (.inl (s _ _ e4))) ?_ ?_
  · unfold mvS; split <;> exact Nat.lt_of_lt_of_le (Nat.lt_succ_self _) (by simp)
  · intro i n H5 Qn Qf hi s5 k1 k2
    exact ⟨rfl, _, rfl, _, _, .type "str", _, true, rfl, .ty "str", .base (.str _), kit_ty (by decide +kernel), _, rfl, k2 H5 (Same.refl _) rfl⟩
  · intro H5 s5 hl
    have e0 : (mvS d).tail.filter (fun _ => false) = [] := List.filter_eq_nil_iff.mpr (fun _ _ => by decide)
    have hl : H5 D = some (.lst []) := by rw [hl, e0]; rfl
    refine ⟨by decide, fun pe hpe => ?_⟩
    generalize hE_H6 : upd H5 pe _ = H6
    have e6 := (congrFun hE_H6 pe).symm.trans upd_same
    have n6 : ∀ q_, q_ ≠ pe → H6 q_ = H5 q_ := by subst hE_H6; exact fun q_ h => upd_ne h
    have s6 : Same H5 H6 := by subst hE_H6; exact same_new hpe
    clear hE_H6
    refine ⟨D, pe, _, rfl, rfl, .inl ⟨.inl (.inl (s6 _ _ hl)), .inl (.inl e6)⟩, ?_⟩
    exact q H6 (((((s1.trans s2).trans s3).trans s4).trans s5).trans s6)
abbrev N_law_leads : List Str := ["_law_one", "_law_other", "_law_moves", "_law_row_here", "_law_deed"]
theorem sc_law_leads : FnScope N_law_leads ["_law_one", "_law_other", "_law_moves"] (defScope (top 61)) := ⟨rfl, rfl, rfl, by decide +kernel, rfl, by decide +kernel, by decide +kernel⟩
theorem cal_law_leads (T : Tp K mg) (F : Fnn K mg "_law_leads" 61)  (c__law_row : Cal P w K mg base 202 "_law_row" (spRowL K 201)) (c__law_is_move : Cal P w K mg base 1 "_law_is_move" (spIsMove K)) (c__law_row_moved : Cal P w K mg base 1 "_law_row_moved" (spRowMoved K)) : Cal P w K mg base 203 "_law_leads" (spLeads K) := by
  have nd := sc_law_leads.nd
  refine cal F (fun _ _ _ _ _ _ us hl => match us, hl with | [_, _, _], _ => rfl) sc_law_leads (fun vs H Q E h => by obtain ⟨a, b, c, x, y, ds, rfl, hx, hy, ox, oy, ⟨vs0, hds, hal⟩, hsh, q⟩ := h; rfl) (fun f cdv A outer s H vs Q E hr h => ?_)
  have hu := hu_of hr
  refine ⟨_, (pss_cons (ps_if (pt_not (pt_val (pe_callB call_isi (by rfl) T.b_isinstance (by decide +kernel) (pa_cons (pv 2) (pa_cons (pe_bltn (v := .ty "tuple") (by rfl) T.b_tuple (by decide +kernel) rfl) pa_nil))))) (pss_one (ps_ret pe_bl)) pss_nil)
      (pss_cons (ps_set (i := 3) nd rfl (.inl rfl) (pe_cc c__law_row hr (by decide) (by rfl) (pa_cons (pv 0) pa_nil)))
      (pss_cons (ps_for PassesOwn.never rfl (pi_tup (pv 2)) (pg_name (i := 4) nd rfl (.inl rfl)) (pss_cons (ps_if (pt_not (pt_val (pe_cc c__law_is_move hr (by decide) (by rfl) (pa_cons (pv 4) pa_nil)))) (pss_one (ps_ret pe_bl)) pss_nil)
      (pss_cons (ps_set (i := 3) nd rfl (.inl rfl) (pe_cc c__law_row_moved hr (by decide) (by rfl) (pa_cons (pv 3) (pa_cons (pv 4) pa_nil))))
      (pss_one (ps_if (pt_cmpR op_isN (pv 3) pe_non (nomark _)) (pss_one (ps_ret pe_bl)) pss_nil)))))
      (pss_one (ps_ret (pe_cmpR (op_eqD hr.units) (pv 3) (pe_cc c__law_row hr (by decide) (by rfl) (pa_cons (pv 1) pa_nil)) (nomark _))))))), ?_⟩
  obtain ⟨a, b, c, x, y, ds, rfl, hx, hy, ox, oy, ⟨vs0, hds, hal⟩, hsh, q⟩ := h
  have hdx := dep_le x
  have hdy := dep_le y
  have hlx := ox.len
  have hly := oy.len
  refine ⟨_, rfl, _, _, .type "tuple", _, true, rfl, .ty "tuple", tyT hds, kit_ty (by decide +kernel), _, rfl, ifE false rfl ?_⟩
  refine ⟨_, rfl, a, x, rfl, hx, ox.short, ox.few, by omega, fun p1 H1 s1 h1 => ?_⟩
  refine ⟨_, rfl, c, rfl, ⟨_, sameT s1 hds⟩, ?_⟩
  refine for_it (walk_tup (K := K) (a := c) (xs := vs0)) (fun i σ' H' => ∃ (p : Addr) (u4 : Option V) (z : Wd Str), σ' = [some (.ref a), some (.ref b), some (.ref c), some (.ref p), u4] ∧ Same H H' ∧ TX H' p (RowV (Wd.row z)) ∧ mvAll (Wd.row x) (ds.take i) = some (Wd.row z) ∧ (Wd.nms z).Perm (Wd.nms x))
    ⟨p1, _, x, rfl, s1, h1, rfl, List.Perm.refl _⟩ ?_ ?_ ?_
  · rintro i σ' H' _ ⟨p, u4, z, rfl, s, _⟩
    exact sameT s hds
  · rintro i v σ' H2 H3 hi ⟨p, u4, z, rfl, s, hp, hm, hpm⟩ ⟨rfl, hv⟩
    obtain ⟨d, hd, pd, rfl, hpd⟩ := hal.get hv
    have hpd := sameT s hpd
    have hnd : (Wd.nms z).Nodup := hpm.nodup_iff.mpr ox.nd
    refine ⟨_, rfl, pd, d, rfl, hpd, fun H4 s4 => ⟨_, rfl, ifE false rfl ?_⟩⟩
    refine ⟨_, rfl, _, rfl, p, pd, z, _, d, rfl, hp.same s4, mv_deed (sameT s4 hpd), hsh d (List.mem_of_getElem? hd), by rw [row_len, hpm.length_eq]; omega, fun H5 hno s5 => ?_, fun l p2 H5 hmv s5 h5 => ?_⟩
    · refine ⟨_, rfl, rfl, _, rfl, ?_⟩
      have hn : mvAll (Wd.row x) ds = none := mvAll_stop hm hd hno
      have e : decide (mvAll (Wd.row x) ds = some (Wd.row y)) = false := decide_eq_false fun h => by rw [hn] at h; cases h
      rw [e] at q
      exact q H5 ((s.trans s4).trans s5)
    · refine ⟨_, rfl, rfl, _, rfl, ?_⟩
      obtain ⟨z2, rfl, hp2⟩ := mvd_wood hnd hmv
      exact ⟨p2, _, z2, rfl, (s.trans s4).trans s5, h5, (mvAll_take hm hd).trans hmv, hp2.trans hpm⟩
  · rintro σ' H2 ⟨p, u4, z, rfl, s, hp, hm, hpm⟩
    rw [hal.len, List.take_length] at hm
    have hzl := hpm.length_eq
    have oz : WdOk z := ⟨hpm.nodup_iff.mpr ox.nd, fun n hn => ox.nm n (hpm.subset hn), by omega⟩
    refine ⟨_, rfl, _, rfl, b, y, rfl, hy.same (Kp.of s), oy.short, oy.few, by omega, fun p2 H3 s3 h3 => ?_⟩
    refine ⟨.tuple (((Wd.row z).map enc).map .str), .tuple (((Wd.row y).map enc).map .str), .tup (hp.same s3).sq (dp_strs _), .tup h3.sq (dp_strs _), shaped_tup oz.rowO, shaped_tup oy.rowO, ?_⟩
    rw [rows_eqv]
    have e : decide (Wd.row z = Wd.row y) = decide (mvAll (Wd.row x) ds = some (Wd.row y)) := by
      rw [hm]
      by_cases h : Wd.row z = Wd.row y
      · rw [h]; simp
      · rw [decide_eq_false h, decide_eq_false fun e => h (Option.some.inj e)]
    rw [e]
    exact q H3 (s.trans s3)
abbrev N_law_overs : List Str := ["_law_wood_here", "_law_kids_here", "_law_found", "_law_name_here", "_law_kid"]
theorem sc_law_overs : FnScope N_law_overs ["_law_wood_here"] (defScope (top 62)) := ⟨rfl, rfl, rfl, by decide +kernel, rfl, by decide +kernel, by decide +kernel⟩
theorem cal_law_overs (T : Tp K mg) (F : Fnn K mg "_law_overs" 62)  (c__law_kids : Cal P w K mg base 1 "_law_kids" (spKids K)) : Cal P w K mg base 2 "_law_overs" (spOvers K) := by
  have nd := sc_law_overs.nd
  refine cal F (fun _ _ _ _ _ _ us hl => match us, hl with | [_], _ => rfl) sc_law_overs (fun vs H Q E h => by obtain ⟨a, x, rfl, hx, ok, q⟩ := h; rfl) (fun f cdv A outer s H vs Q E hr h => ?_)
  have hu := hu_of hr
  refine ⟨_, (pss_cons (ps_par (i := 1) (j := 2) rfl nd rfl rfl (by decide) rfl rfl (pa_cons (pe_cc c__law_kids hr (by decide) (by rfl) (pa_cons (pv 0) pa_nil)) (pa_cons pe_dnewK pa_nil)) (by rfl))
      (pss_cons (ps_lock (ps_for PassesOwn.never rfl (pi_keysM (pv 1)) (pg_name (i := 3) nd rfl (.inl rfl)) (pss_one (ps_for PassesOwn.never rfl (pi_list (pe_dget hu (pv 1) (pv 3) (fun _ _ => rfl))) (pg_name (i := 4) nd rfl (.inl rfl)) (pss_one (ps_dput hu (pv 2) (pv 4) (pv 3) rfl))))))
      (pss_one (ps_ret (pv 2))))), ?_⟩
  obtain ⟨a, x, rfl, hx, ok, q⟩ := h
  have hlen := ok.len
  refine ⟨_, rfl, a, x, rfl, hx, ok, fun pd H1 kvs ks npd s1 kd hks => ?_⟩
  intro pf hpf
  generalize hE_H2 : upd H1 pf _ = H2
  have e2 := (congrFun hE_H2 pf).symm.trans upd_same
  have n2 : ∀ q_, q_ ≠ pf → H2 q_ = H1 q_ := by subst hE_H2; exact fun q_ h => upd_ne h
  have s2 : Same H1 H2 := by subst hE_H2; exact same_new hpf
  clear hE_H2
  refine ⟨_, _, rfl, ?_⟩
  have hfH : H pf = none := s1.free hpf
  have npf : pf ≠ pd := fun z => by subst z; rw [kd.dk] at hpf; cases hpf
  have hk2 := s2 _ _ kd.dk
  refine ⟨pd, .dK kvs, hk2, trivial, fun od => ?_⟩
  generalize hE_H3 : upd H2 pd _ = H3
  have e3 := (congrFun hE_H3 pd).symm.trans upd_same
  have n3 : ∀ q_, q_ ≠ pd → H3 q_ = H2 q_ := by subst hE_H3; exact fun q_ h => upd_ne h
  have k3 : Kp H2 H3 := by subst hE_H3; exact Kp.mut hk2 (fun z => z)
  have m3 : ∀ H0, Same H0 H2 → H0 pd = none → Same H0 H3 := by subst hE_H3; exact fun _ s h => same_mut s h
  clear hE_H3
  refine ⟨_, rfl, pd, od, kvs, rfl, e3, ?_⟩
  have hkl : kvs.length = ks.length := by have := congrArg List.length kd.ks; rwa [List.length_map, List.length_map] at this
  have hksl : ks.length ≤ 201 := by have := hks.length_eq; rw [List.length_cons] at this; omega
  have hCl : ∀ n ∈ ks, (CK x n).length ≤ 200 := fun n hn => by
    have hk := CK_kin ok
    rcases List.mem_cons.mp (hks.subset hn) with e | h
    · subst e; rw [hk.2]; have := roots_len x; omega
    · have := agree_len hk.1 h; omega
  have hosl : ∀ (fvs : List (Key × V)) (os : List Str) (M : Str → Str → Prop), OI fvs os M → (∀ n q, M n q → n ∈ CK x q) → fvs.length ≤ 200 := fun fvs os M I h => by
    have h1 := congrArg List.length I.ks
    rw [List.length_map, List.length_map] at h1
    have h2 := len_le_of_sub os (Wd.nms x) I.nd fun n hn => by
      obtain ⟨q, hq⟩ := I.src n hn
      exact par_nm (mem_CK.mp (h n q hq))
    omega
  refine for_it (walk_keys (d := pd) (o := od) (kvs := kvs)) (fun i σ' H' => ∃ (u3 u4 : Option V) (fvs : List (Key × V)) (os : List Str), σ' = [some (.ref a), some (.ref pd), some (.ref pf), u3, u4] ∧ (∀ c o, c ≠ pd → c ≠ pf → H1 c = some o → H' c = some o) ∧ H' pd = some (.frz od (.dK kvs)) ∧ H' pf = some (.dK fvs) ∧ OI fvs os (fun n q => q ∈ ks.take i ∧ n ∈ CK x q))
    ⟨_, _, [], [], rfl, fun c o h1 h2 e => (n3 c h1).trans (s2 _ _ e), e3, (n3 pf npf).trans e2, rfl, List.nodup_nil, fun n q h => (by simp at h), fun n h => nomatch h⟩ ?_ ?_ ?_
  · rintro i σ' H' _ ⟨u3, u4, fvs, os, rfl, _, h, _⟩
    exact h
  · rintro i v σ' H4 H5 hi ⟨u3, u4, fvs, os, rfl, so, hpd, hpf4, I⟩ ⟨rfl, k, v2, hk, rfl⟩
    obtain ⟨q0, hq0, rfl⟩ : ∃ q0, ks[i]? = some q0 ∧ k = kS q0 := by
      have h1 : (kvs.map (·.1))[i]? = some k := by rw [List.getElem?_map, hk]; rfl
      rw [kd.ks, List.getElem?_map] at h1
      cases hz2 : ks[i]? with
      | none => rw [hz2] at h1; cases h1
      | some n => rw [hz2] at h1; exact ⟨n, rfl, (Option.some.inj h1).symm⟩
    have hqm := List.mem_of_getElem? hq0
    have htk : ks.take (i + 1) = ks.take i ++ [q0] := by rw [List.take_add_one, hq0]; rfl
    obtain ⟨b, hb0, hb1, hb2⟩ := kd.at_ q0 hqm
    have hbd : b ≠ pd := fun z => by subst z; rw [kd.dk] at hb2; cases hb2
    have hbf : b ≠ pf := ne_of_none hb2 hpf
    have hb5 := so b _ hbd hbf hb2
    have g : DGet H5 pd (.str q0) (some (.ref b)) := .inl ⟨kvs, kS q0, .inr ⟨od, hpd⟩, rfl, hb1.symm⟩
    refine ⟨_, rfl, _, rfl, _, _, rfl, g, b, rfl, ⟨_, .inl (.inl hb5)⟩, ?_⟩
    refine for_it (walk_list (K := K) (a := b) (xs := (CK x q0).map V.str)) (fun j σ' H' => ∃ (u4 : Option V) (fvs : List (Key × V)) (os : List Str), σ' = [some (.ref a), some (.ref pd), some (.ref pf), some (.str q0), u4] ∧ (∀ c o, c ≠ pd → c ≠ pf → H1 c = some o → H' c = some o) ∧ H' pd = some (.frz od (.dK kvs)) ∧ H' pf = some (.dK fvs) ∧ OI fvs os (fun n q => (q ∈ ks.take i ∧ n ∈ CK x q) ∨ (q = q0 ∧ n ∈ (CK x q0).take j)))
      ⟨_, fvs, os, rfl, so, hpd, hpf4, I.ks, I.nd, fun n q h => I.val n q (by rcases h with h | ⟨_, h⟩; exact h; simp at h), fun n h => let ⟨q, hq⟩ := I.src n h; ⟨q, .inl hq⟩⟩ ?_ ?_ ?_
    · rintro j σ' H' _ ⟨u4, fvs, os, rfl, so, _⟩
      exact .inl (.inl (so b _ hbd hbf hb2))
    · rintro j v σ' H6 H7 hj ⟨u4, fvs, os, rfl, so, hpd, hpf4, I⟩ ⟨rfl, hv⟩
      have hv : ((CK x q0).map V.str)[j]? = some v := hv
      rw [List.getElem?_map] at hv
      obtain ⟨n, hn, rfl⟩ : ∃ n, (CK x q0)[j]? = some n ∧ v = .str n := by
        cases hz2 : (CK x q0)[j]? with
        | none => rw [hz2] at hv; cases hv
        | some n => rw [hz2] at hv; exact ⟨n, rfl, (Option.some.inj hv).symm⟩
      have hnm := List.mem_of_getElem? hn
      have htj : (CK x q0).take (j + 1) = (CK x q0).take j ++ [n] := by rw [List.take_add_one, hn]; rfl
      have hfl := hosl fvs os _ I (fun n q h => by
        rcases h with h | ⟨h1, h2⟩
        · exact h.2
        · subst h1; exact List.mem_of_mem_take h2)
      refine ⟨_, rfl, _, rfl, _, rfl, pf, _, rfl, DPut.k (k := kS n) hpf4 (by rw [line]; omega), ?_⟩
      generalize hE_H8 : upd H7 pf _ = H8
      have e8 := (congrFun hE_H8 pf).symm.trans upd_same
      have n8 : ∀ q_, q_ ≠ pf → H8 q_ = H7 q_ := by subst hE_H8; exact fun q_ h => upd_ne h
      have k8 : Kp H7 H8 := by subst hE_H8; exact Kp.mut hpf4 (fun z => z)
      have m8 : ∀ H0, Same H0 H7 → H0 pf = none → Same H0 H8 := by subst hE_H8; exact fun _ s h => same_mut s h
      clear hE_H8
      obtain ⟨os', I', _⟩ := I.put (M' := fun n q => (q ∈ ks.take i ∧ n ∈ CK x q) ∨ (q = q0 ∧ n ∈ (CK x q0).take (j + 1))) (n := n) (q := q0) (fun a b h => by
          rcases h with h | ⟨h1, h2⟩
          · exact .inl h
          · exact .inr ⟨h1, by rw [htj]; exact List.mem_append_left _ h2⟩) (.inr ⟨rfl, by rw [htj]; exact List.mem_append_right _ (List.mem_singleton.mpr rfl)⟩) (fun a b h => by
          rcases h with h | ⟨h1, h2⟩
          · exact .inl (.inl h)
          · rw [htj] at h2
            rcases List.mem_append.mp h2 with h2 | h2
            · exact .inl (.inr ⟨h1, h2⟩)
            · exact .inr ⟨List.mem_singleton.mp h2, h1⟩) (fun b h => by
          rcases h with h | ⟨h1, _⟩
          · exact CK_one ok h.2 hnm
          · exact h1)
      exact ⟨_, _, os', rfl, fun c o h1 h2 e => (n8 c h2).trans (so c o h1 h2 e), (n8 pd (Ne.symm npf)).trans hpd, e8, I'⟩
    · rintro σ' H6 ⟨u4, fvs, os, rfl, so, hpd, hpf4, I⟩
      rw [List.length_map, List.take_length] at I
      refine ⟨_, _, fvs, os, rfl, so, hpd, hpf4, I.ks, I.nd, fun n q h => I.val n q ?_, fun n h => ?_⟩
      · rw [htk] at h
        rcases List.mem_append.mp h.1 with h1 | h1
        · exact .inl ⟨h1, h.2⟩
        · have := List.mem_singleton.mp h1; subst this; exact .inr ⟨rfl, h.2⟩
      · obtain ⟨q, hq⟩ := I.src n h
        refine ⟨q, ?_, ?_⟩
        · rw [htk]
          rcases hq with h | ⟨h, _⟩
          · exact List.mem_append_left _ h.1
          · exact List.mem_append_right _ (List.mem_singleton.mpr h)
        · rcases hq with h | ⟨h1, h2⟩
          · exact h.2
          · subst h1; exact h2
  · rintro σ' H4 ⟨u3, u4, fvs, os, rfl, so, hpd, hpf4, I⟩
    refine ⟨hpd, ?_⟩
    rw [hkl, List.take_length] at I
    generalize hE_H5 : upd H4 pd _ = H5
    have e5 := (congrFun hE_H5 pd).symm.trans upd_same
    have n5 : ∀ q_, q_ ≠ pd → H5 q_ = H4 q_ := by subst hE_H5; exact fun q_ h => upd_ne h
    have k5 : Kp H4 H5 := by subst hE_H5; exact Kp.mut hpd (fun z => z)
    have m5 : ∀ H0, Same H0 H4 → H0 pd = none → Same H0 H5 := by subst hE_H5; exact fun _ s h => same_mut s h
    clear hE_H5
    refine ⟨_, rfl, q pf H5 hfH (fun c o e => ?_) ⟨fvs, os, (n5 pf npf).trans hpf4, I.ks, ?_, fun n p hnp => I.val n _ ⟨?_, ?_⟩⟩⟩
    · have c1 := ne_of_none e npd
      have c2 := ne_of_none e hfH
      exact (n5 c c1).trans (so c o c1 c2 (s1 _ _ e))
    · refine (List.perm_ext_iff_of_nodup I.nd ok.nd).mpr fun n => ⟨fun hn => ?_, fun hn => ?_⟩
      · obtain ⟨q, _, hq⟩ := I.src n hn
        exact par_nm (mem_CK.mp hq)
      · obtain ⟨p, hp⟩ := nm_par hn
        have hv := I.val n (p.getD "") ⟨?_, ?_⟩
        · have h1 := valV_in hv
          rw [I.ks] at h1
          obtain ⟨y, hy, e⟩ := List.mem_map.mp h1
          cases e
          exact hy
        · refine hks.symm.subset ?_
          rcases prs_par x none n p hp with e | ⟨y, hy, e⟩
          · subst e; exact List.mem_cons_self
          · subst e; exact List.mem_cons_of_mem _ hy
        · rw [mem_CK]
          rcases prs_par x none n p hp with e | ⟨y, hy, e⟩
          · subst e; exact hp
          · subst e
            show (n, if y = "" then none else some y) ∈ _
            rw [if_neg (nm_ne (ok.nm y hy))]; exact hp
    · refine hks.symm.subset ?_
      rcases prs_par x none n p hnp with e | ⟨y, hy, e⟩
      · subst e; exact List.mem_cons_self
      · subst e; exact List.mem_cons_of_mem _ hy
    · rw [mem_CK]
      rcases prs_par x none n p hnp with e | ⟨y, hy, e⟩
      · subst e; exact hnp
      · subst e
        show (n, if y = "" then none else some y) ∈ _
        rw [if_neg (nm_ne (ok.nm y hy))]; exact hnp
end
end K76
/-! text W22 -/
set_option Elab.async false
set_option linter.all false
set_option maxRecDepth 100000
set_option maxHeartbeats 1000000
namespace K76
open PySem PySem.Spec PyProof.Rows L2
def par (p : Option Str) : Str := p.getD ""
/-- where a name that stays stands -/
def StyAt (K : PySem.W.Frag) (H : Hp) (a : Addr) (x y : Wd Str) : Prop := ∃ (kvs : List (Key × V)) (os : List Str), H a = some (.dK kvs) ∧ kvs.map (·.1) = os.map kS ∧ os.Perm ((stayL x y).map (·.1)) ∧
  ∀ n p, (n, p) ∈ stayL x y → ∃ t, valV kvs (kS n) = some (.ref t) ∧ SqT K H t [.str (par p), .int ((CK x (par p)).idxOf n : Nat), .int ((CK y (par p)).idxOf n : Nat)]
theorem StyAt.same {K : PySem.W.Frag} {H H' : Hp} {a : Addr} {x y : Wd Str} (s : Same H H') (h : StyAt K H a x y) : StyAt K H' a x y :=
  let ⟨k, o, e, h1, h2, h3⟩ := h; ⟨k, o, s _ _ e, h1, h2, fun n p hn => let ⟨t, g1, g2⟩ := h3 n p hn; ⟨t, g1, sameT s g2⟩⟩
def spSty (K : PySem.W.Frag) : Sp := fun vs H Q _ => ∃ (a b : Addr) (x y : Wd Str), vs = [.ref a, .ref b] ∧ WoodAt K H a x ∧ WoodAt K H b y ∧ WdOk x ∧ WdOk y ∧ (Wd.nms x).Perm (Wd.nms y) ∧ ∀ p H', H p = none → Same H H' → StyAt K H' p x y → Q (.ref p) H'
theorem par_in {x : Wd Str} (ok : WdOk x) {n : Str} {p : Option Str} (h : (n, p) ∈ Wd.prs none x) : n ∈ CK x (par p) ∧ (par p = "" ∨ par p ∈ Wd.nms x) ∧ (if par p = "" then none else some (par p)) = p := by
  rcases prs_par x none n p h with e | ⟨y, hy, e⟩
  · subst e
    refine ⟨mem_CK.mpr ?_, .inl rfl, rfl⟩
    exact h
  · subst e
    have hne := nm_ne (ok.nm y hy)
    refine ⟨mem_CK.mpr ?_, .inr hy, ?_⟩
    · show (n, if y = "" then none else some y) ∈ _
      rw [if_neg hne]; exact h
    · show (if y = "" then none else some y) = some y
      rw [if_neg hne]
theorem par_inj {x y : Wd Str} (ok : WdOk x) (oky : WdOk y) {n m : Str} {p q : Option Str} (h : (n, p) ∈ Wd.prs none x) (h2 : (m, q) ∈ Wd.prs none y) : par p = par q ↔ p = q := by
  constructor
  · intro e
    have h3 := (par_in ok h).2.2
    have h4 := (par_in oky h2).2.2
    rw [← h3, ← h4, e]
  · intro e; rw [e]
theorem CK_idx {x : Wd Str} (ok : WdOk x) {q n m : Str} (hn : n ∈ CK x q) (hm : m ∈ CK x q) : (CK x q).idxOf n < (CK x q).idxOf m ↔ posn x n < posn x m := by
  have hs : (CK x q).Sublist (Wd.nms x) := by
    have := kidsL_sub (Wd.prs none x) (if q = "" then none else some q)
    rw [prs_nms] at this
    exact this
  exact idx_sub hs ok.nd hn hm
theorem idx_flat {L : List Str} {n : Str} (h : n ∈ L) : (L.map V.str)[L.idxOf n]? = some (.str n) ∧ ∀ (m : Nat) (z : V), m < L.idxOf n → (L.map V.str)[m]? = some z → eqV z (.str n) = false := by
  have h1 := List.idxOf_lt_length_of_mem h
  refine ⟨by rw [List.getElem?_map, List.getElem?_eq_getElem h1]; simp, fun m z hm hz => ?_⟩
  rw [List.getElem?_map] at hz
  cases e : L[m]? with
  | none => rw [e] at hz; cases hz
  | some y =>
    rw [e] at hz
    cases hz
    show (y == n) = false
    obtain ⟨h2, h3⟩ := List.getElem?_eq_some_iff.mp e
    have h4 := List.not_of_lt_findIdx (xs := L) (p := fun x => x == n) (i := m) hm
    rw [h3] at h4
    simpa using h4
section
variable {P : Program} {w : World} {K : PySem.W.Frag} {mg : Str → Option Value} {base : Heap}
abbrev N_law_staying : List Str := ["_law_one", "_law_other", "_law_here", "_law_there", "_law_kids_here", "_law_others", "_law_found", "_law_name_here", "_law_over"]
theorem sc_law_staying : FnScope N_law_staying ["_law_one", "_law_other"] (defScope (top 63)) := ⟨rfl, rfl, rfl, by decide +kernel, rfl, by decide +kernel, by decide +kernel⟩
theorem cal_law_staying (T : Tp K mg) (F : Fnn K mg "_law_staying" 63)  (c__law_overs : Cal P w K mg base 2 "_law_overs" (spOvers K)) (c__law_kids : Cal P w K mg base 1 "_law_kids" (spKids K)) : Cal P w K mg base 3 "_law_staying" (spSty K) := by
  have nd := sc_law_staying.nd
  refine cal F (fun _ _ _ _ _ _ us hl => match us, hl with | [_, _], _ => rfl) sc_law_staying (fun vs H Q E h => by obtain ⟨a, b, x, y, rfl, hx, hy, ox, oy, hp, q⟩ := h; rfl) (fun f cdv A outer s H vs Q E hr h => ?_)
  have hu := hu_of hr
  refine ⟨_, (pss_cons (ps_par (i := 2) (j := 3) rfl nd rfl rfl (by decide) rfl rfl (pa_cons (pe_cc c__law_overs hr (by decide) (by rfl) (pa_cons (pv 0) pa_nil)) (pa_cons (pe_cc c__law_overs hr (by decide) (by rfl) (pa_cons (pv 1) pa_nil)) pa_nil)) (by rfl))
      (pss_cons (ps_par3 (i := 4) (j := 5) (l := 6) rfl nd rfl rfl rfl (by decide) (by decide) (by decide) rfl rfl rfl (pa_cons (pe_cc c__law_kids hr (by decide) (by rfl) (pa_cons (pv 0) pa_nil)) (pa_cons (pe_cc c__law_kids hr (by decide) (by rfl) (pa_cons (pv 1) pa_nil)) (pa_cons pe_dnewK pa_nil))) (by rfl))
      (pss_cons (ps_lock (ps_for PassesOwn.never rfl (pi_keysM (pv 2)) (pg_name (i := 7) nd rfl (.inl rfl)) (pss_cons (ps_set (i := 8) nd rfl (.inl rfl) (pe_dget hu (pv 2) (pv 7) (fun _ _ => rfl)))
      (pss_one (ps_if (pt_cmpR op_eq (pe_dget hu (pv 3) (pv 7) (fun _ _ => rfl)) (pv 8) (nomark _)) (pss_one (ps_dput hu (pv 6) (pv 7) (pe_tup (pa_cons (pv 8) (pa_cons (pe_bm PySem.F.plainAttrs_list PySem.F.slot_list_index PySem.F.type_list_index mt_index (pe_dget hu (pv 4) (pv 8) (fun _ _ => rfl)) (pa_cons (pv 7) pa_nil)) (pa_cons (pe_bm PySem.F.plainAttrs_list PySem.F.slot_list_index PySem.F.type_list_index mt_index (pe_dget hu (pv 5) (pv 8) (fun _ _ => rfl)) (pa_cons (pv 7) pa_nil)) pa_nil)))) rfl)) pss_nil)))))
      (pss_one (ps_ret (pv 6)))))), ?_⟩
  obtain ⟨a, b, x, y, rfl, hx, hy, ox, oy, hp, q⟩ := h
  have hlen := ox.len
  refine ⟨_, rfl, a, x, rfl, hx, ox, fun ph H1 nph s1 hph => ⟨_, rfl, b, y, rfl, hy.same (Kp.of s1), oy, fun pt H2 npt s2 hpt => ⟨_, _, rfl, ?_⟩⟩⟩
  have s12 := s1.trans s2
  refine ⟨_, rfl, a, x, rfl, hx.same (Kp.of s12), ox, fun pa H3 ka ksa npa s3 kda hka => ⟨_, rfl, b, y, rfl, hy.same (Kp.of (s12.trans s3)), oy, fun pb H4 kb ksb npb s4 kdb hkb => ?_⟩⟩
  intro pf hpf
  generalize hE_H5 : upd H4 pf _ = H5
  have e5 := (congrFun hE_H5 pf).symm.trans upd_same
  have n5 : ∀ q_, q_ ≠ pf → H5 q_ = H4 q_ := by subst hE_H5; exact fun q_ h => upd_ne h
  have s5 : Same H4 H5 := by subst hE_H5; exact same_new hpf
  clear hE_H5
  refine ⟨_, _, _, rfl, ?_⟩
  have s14 := s12.trans (s3.trans s4)
  have hfH : H pf = none := s14.free hpf
  obtain ⟨hvs, os, hh1, hh2, hh3, hh4⟩ := hph
  obtain ⟨tvs, ot, ht1, ht2, ht3, ht4⟩ := hpt
  have hh5 := s5 _ _ (s4 _ _ (s3 _ _ (s2 _ _ hh1)))
  refine ⟨ph, .dK hvs, hh5, trivial, fun od => ?_⟩
  generalize hE_H6 : upd H5 ph _ = H6
  have e6 := (congrFun hE_H6 ph).symm.trans upd_same
  have n6 : ∀ q_, q_ ≠ ph → H6 q_ = H5 q_ := by subst hE_H6; exact fun q_ h => upd_ne h
  have k6 : Kp H5 H6 := by subst hE_H6; exact Kp.mut hh5 (fun z => z)
  have m6 : ∀ H0, Same H0 H5 → H0 ph = none → Same H0 H6 := by subst hE_H6; exact fun _ s h => same_mut s h
  clear hE_H6
  have npf : pf ≠ ph := fun z => by subst z; rw [(s4 _ _ (s3 _ _ (s2 _ _ hh1)))] at hpf; cases hpf
  have hos : os.length ≤ 200 := by rw [hh3.length_eq]; omega
  have hnd : os.Nodup := hh3.nodup_iff.mpr ox.nd
  have hkl : hvs.length = os.length := by have := congrArg List.length hh2; rwa [List.length_map, List.length_map] at this
  have hcq : ∀ (x : Wd Str) (ok : WdOk x) (q : Str), (CK x q).length ≤ 200 := fun x ok q => by
    have h1 := (kidsL_sub (Wd.prs none x) (if q = "" then none else some q)).length_le
    rw [prs_nms] at h1
    exact Nat.le_trans h1 ok.len
  refine ⟨_, rfl, ph, od, hvs, rfl, e6, ?_⟩
  refine for_it (walk_keys (d := ph) (o := od) (kvs := hvs)) (fun i σ' H' => ∃ (u7 u8 : Option V) (fvs : List (Key × V)), σ' = [some (.ref a), some (.ref b), some (.ref ph), some (.ref pt), some (.ref pa), some (.ref pb), some (.ref pf), u7, u8] ∧ (∀ c o, c ≠ ph → c ≠ pf → H4 c = some o → H' c = some o) ∧ H' ph = some (.frz od (.dK hvs)) ∧ H' pf = some (.dK fvs) ∧
      fvs.map (·.1) = ((os.take i).filter fun n => decide (n ∈ (stayL x y).map (·.1))).map kS ∧ ∀ n p, n ∈ os.take i → (n, p) ∈ stayL x y → ∃ t, valV fvs (kS n) = some (.ref t) ∧ SqT K H' t [.str (par p), .int ((CK x (par p)).idxOf n : Nat), .int ((CK y (par p)).idxOf n : Nat)])
    ⟨_, _, [], rfl, fun c o h1 h2 e => (n6 c h1).trans (s5 _ _ e), e6, (n6 pf npf).trans e5, rfl, fun n p h => (by simp at h)⟩ ?_ ?_ ?_
  · rintro i σ' H' _ ⟨u7, u8, fvs, rfl, _, h, _⟩
    exact h
  · rintro i v σ' H7 H8 hi ⟨u7, u8, fvs, rfl, so, hph7, hpf7, hks, hval⟩ ⟨rfl, k, v2, hk, rfl⟩
    obtain ⟨n, hn, rfl⟩ : ∃ n, os[i]? = some n ∧ k = kS n := by
      have h1 : (hvs.map (·.1))[i]? = some k := by rw [List.getElem?_map, hk]; rfl
      rw [hh2, List.getElem?_map] at h1
      cases hz2 : os[i]? with
      | none => rw [hz2] at h1; cases h1
      | some n => rw [hz2] at h1; exact ⟨n, rfl, (Option.some.inj h1).symm⟩
    have htk : os.take (i + 1) = os.take i ++ [n] := by rw [List.take_add_one, hn]; rfl
    have hi2 : i < os.length := (List.getElem?_eq_some_iff.mp hn).1
    have hnew : n ∉ os.take i := fun h => by
      have := hnd
      rw [← List.take_append_drop i os, List.nodup_append] at this
      have hdr : n ∈ os.drop i := by rw [List.drop_eq_getElem_cons hi2, (List.getElem?_eq_some_iff.mp hn).2]; exact List.mem_cons_self
      exact this.2.2 _ h _ hdr rfl
    have hnx : n ∈ Wd.nms x := hh3.subset (List.mem_of_getElem? hn)
    obtain ⟨p, hpx⟩ := nm_par hnx
    obtain ⟨p2, hpy⟩ := nm_par (hp.subset hnx)
    have g1 : DGet H8 ph (.str n) (some (.str (par p))) := .inl ⟨hvs, kS n, .inr ⟨od, hph7⟩, rfl, (hh4 n p hpx).symm⟩
    have ht7 := so pt _ (fun z => by rw [z, hh1] at npt; cases npt) (fun z => by subst z; rw [s4 _ _ (s3 _ _ ht1)] at hpf; cases hpf) (s4 _ _ (s3 _ _ ht1))
    have g2 := DGet.k (k := kS n) ht7
    rw [ht4 n p2 hpy] at g2
    refine ⟨_, rfl, _, rfl, _, _, rfl, g1, ?_⟩
    refine ⟨_, rfl, _, rfl, _, _, rfl, g2, _, rfl, rfl, _, rfl, ?_⟩
    have hst : decide (V.str (par p2) = V.str (par p)) = decide (n ∈ (stayL x y).map (·.1)) := by
      by_cases e : p2 = p
      · subst e
        rw [decide_eq_true rfl, decide_eq_true (List.mem_map_of_mem (f := (·.1)) (stay_mem.mpr ⟨hpx, hpy⟩))]
      · rw [decide_eq_false (fun z => e ((par_inj oy ox hpy hpx).mp (V.str.inj z))), decide_eq_false fun z => ?_]
        obtain ⟨w, hw, e2⟩ := List.mem_map.mp z
        obtain ⟨w1, w2⟩ := w
        simp only at e2
        subst e2
        have h1 := stay_mem.mp hw
        exact e ((nodup_snd (prs_nd oy) hpy h1.2).trans (nodup_snd (prs_nd ox) h1.1 hpx))
    refine ifE _ hst (ifB (fun hin => ?_) (fun hin => ?_))
    · have hin2 : (n, p) ∈ stayL x y ∧ p2 = p := by
        obtain ⟨w, hw, e2⟩ := List.mem_map.mp (of_decide_eq_true hin)
        obtain ⟨w1, w2⟩ := w
        simp only at e2
        subst e2
        have h1 := stay_mem.mp hw
        have e1 := nodup_snd (prs_nd ox) h1.1 hpx
        subst e1
        exact ⟨hw, nodup_snd (prs_nd oy) hpy h1.2⟩
      obtain ⟨hsty, e12⟩ := hin2
      subst e12
      obtain ⟨i1, i2, _⟩ := par_in ox hpx
      obtain ⟨j1, j2, _⟩ := par_in oy hpy
      have hph2 := s2 _ _ hh1
      obtain ⟨c, hc0, hc1, hc2⟩ := kda.at_ (par p2) (hka.symm.subset (by rcases i2 with h | h; rw [h]; exact List.mem_cons_self; exact List.mem_cons_of_mem _ h))
      obtain ⟨c', hc0', hc1', hc2'⟩ := kdb.at_ (par p2) (hkb.symm.subset (by rcases j2 with h | h; rw [h]; exact List.mem_cons_self; exact List.mem_cons_of_mem _ h))
      have hka7 := so pa _ (fun z => by rw [z, hph2] at npa; cases npa) (ne_of_none (s4 _ _ kda.dk) hpf) (s4 _ _ kda.dk)
      have hkb7 := so pb _ (fun z => by rw [z, s3 _ _ hph2] at npb; cases npb) (ne_of_none kdb.dk hpf) kdb.dk
      have hc7 := so c _ (fun z => by rw [z, hph2] at hc0; cases hc0) (ne_of_none (s4 _ _ hc2) hpf) (s4 _ _ hc2)
      have hc7' := so c' _ (fun z => by rw [z, s3 _ _ hph2] at hc0'; cases hc0') (ne_of_none hc2' hpf) hc2'
      have ga := DGet.k (k := kS (par p2)) hka7
      rw [hc1] at ga
      have gb := DGet.k (k := kS (par p2)) hkb7
      rw [hc1'] at gb
      obtain ⟨f1, f2⟩ := idx_flat i1
      obtain ⟨f3, f4⟩ := idx_flat j1
      refine ⟨_, rfl, _, rfl, _, rfl, _, _, rfl, ga, .inl ⟨rfl, _, .inl (.inl hc7)⟩, _, rfl, c, _, _, _, _, rfl, rfl, .inl (.inl hc7), rfl, flat_all _, f1, (by show (n == n) = true; simp), f2, ?_⟩
      refine ⟨_, rfl, _, rfl, _, _, rfl, gb, .inl ⟨rfl, _, .inl (.inl hc7')⟩, _, rfl, c', _, _, _, _, rfl, rfl, .inl (.inl hc7'), rfl, flat_all _, f3, (by show (n == n) = true; simp), f4, by show 3 ≤ sizeLine; decide, fun t ht => ?_⟩
      generalize hE_H9 : upd H8 t _ = H9
      have e9 := (congrFun hE_H9 t).symm.trans upd_same
      have n9 : ∀ q_, q_ ≠ t → H9 q_ = H8 q_ := by subst hE_H9; exact fun q_ h => upd_ne h
      have s9 : Same H8 H9 := by subst hE_H9; exact same_new ht
      clear hE_H9
      have hpf9 := s9 _ _ hpf7
      have hfl : fvs.length ≤ 200 := by
        have h1 := congrArg List.length hks
        rw [List.length_map, List.length_map] at h1
        have h2 := List.length_filter_le (fun n => decide (n ∈ (stayL x y).map (·.1))) (os.take i)
        rw [List.length_take] at h2
        omega
      refine ⟨_, rfl, _, rfl, pf, _, rfl, DPut.k (k := kS n) hpf9 (by rw [line]; omega), ?_⟩
      generalize hE_H10 : upd H9 pf _ = H10
      have e10 := (congrFun hE_H10 pf).symm.trans upd_same
      have n10 : ∀ q_, q_ ≠ pf → H10 q_ = H9 q_ := by subst hE_H10; exact fun q_ h => upd_ne h
      have k10 : Kp H9 H10 := by subst hE_H10; exact Kp.mut hpf9 (fun z => z)
      have m10 : ∀ H0, Same H0 H9 → H0 pf = none → Same H0 H10 := by subst hE_H10; exact fun _ s h => same_mut s h
      clear hE_H10
      have hvn : valV fvs (kS n) = none := by
        cases z : valV fvs (kS n) with
        | none => rfl
        | some v =>
          have h1 := valV_in z
          rw [hks] at h1
          obtain ⟨y, hy, e⟩ := List.mem_map.mp h1
          cases e
          exact absurd (List.mem_filter.mp hy).1 hnew
      refine ⟨_, _, putK fvs (kS n) (.ref t), rfl, fun c o h1 h2 e => (n10 c h2).trans (s9 _ _ (so c o h1 h2 e)), (n10 ph (Ne.symm npf)).trans (s9 _ _ hph7), e10, ?_, fun m q hm hq => ?_⟩
      · rw [putK_new _ hvn, List.map_append, hks, htk, List.filter_append, List.map_append, List.filter_cons, hin]
        rfl
      · rw [valV_put]
        by_cases c : m = n
        · subst c
          have e2 := nodup_snd (prs_nd ox) (stay_mem.mp hq).1 hpx
          subst e2
          exact ⟨t, by rw [if_pos rfl], k10.T (.inl (.inl e9))⟩
        · rw [if_neg fun z => c (Sum.inr.inj z)]
          have hm2 : m ∈ os.take i := by
            rw [htk] at hm
            rcases List.mem_append.mp hm with h | h
            · exact h
            · exact absurd (List.mem_singleton.mp h) c
          obtain ⟨t2, h1, h2⟩ := hval m q hm2 hq
          exact ⟨t2, h1, ((Kp.of s9).trans k10).T h2⟩
    · refine ⟨_, _, fvs, rfl, so, hph7, hpf7, ?_, fun m q hm hq => ?_⟩
      · rw [hks, htk, List.filter_append, List.filter_cons, hin]
        simp
      · have hm2 : m ∈ os.take i := by
          rw [htk] at hm
          rcases List.mem_append.mp hm with h | h
          · exact h
          · have e := List.mem_singleton.mp h
            subst e
            exact absurd (List.mem_map_of_mem (f := (·.1)) hq) (of_decide_eq_false hin)
        exact hval m q hm2 hq
  · rintro σ' H7 ⟨u7, u8, fvs, rfl, so, hph7, hpf7, hks, hval⟩
    refine ⟨hph7, ?_⟩
    rw [hkl, List.take_length] at hks hval
    generalize hE_H8 : upd H7 ph _ = H8
    have e8 := (congrFun hE_H8 ph).symm.trans upd_same
    have n8 : ∀ q_, q_ ≠ ph → H8 q_ = H7 q_ := by subst hE_H8; exact fun q_ h => upd_ne h
    have k8 : Kp H7 H8 := by subst hE_H8; exact Kp.mut hph7 (fun z => z)
    have m8 : ∀ H0, Same H0 H7 → H0 ph = none → Same H0 H8 := by subst hE_H8; exact fun _ s h => same_mut s h
    clear hE_H8
    have k78 : ∀ {t xs}, SqT K H7 t xs → SqT K H8 t xs := fun {t xs} h => by
      rcases h with (h | ⟨o, h⟩) | h
      · exact .inl (.inl ((n8 t (fun z => by subst z; rw [hph7] at h; cases h)).trans h))
      · exact .inl (.inr ⟨o, (n8 t (fun z => by subst z; rw [hph7] at h; cases h)).trans h⟩)
      · exact .inr h
    refine ⟨_, rfl, q pf H8 hfH (fun c o e => ?_) ⟨fvs, _, (n8 pf npf).trans hpf7, hks, ?_, fun n p hn => ?_⟩⟩
    · have c1 : c ≠ ph := ne_of_none e nph
      have c2 := ne_of_none e hfH
      exact (n8 c c1).trans (so c o c1 c2 (s14 _ _ e))
    · refine (List.perm_ext_iff_of_nodup (List.Nodup.sublist List.filter_sublist hnd) (stay_nd ox)).mpr fun n => ?_
      rw [List.mem_filter, decide_eq_true_eq]
      refine ⟨fun h => h.2, fun h => ⟨?_, h⟩⟩
      obtain ⟨w, hw, rfl⟩ := List.mem_map.mp h
      exact hh3.symm.subset (par_nm (stay_mem.mp hw).1)
    · obtain ⟨t, h1, h2⟩ := hval n p (hh3.symm.subset (par_nm (stay_mem.mp hn).1)) hn
      exact ⟨t, h1, k78 h2⟩
end
end K76
/-! text W23 -/
set_option Elab.async false
set_option linter.all false
set_option maxRecDepth 100000
set_option maxHeartbeats 1000000
namespace K76
open PySem PySem.Spec PyProof.Rows L2
def spTurned (K : PySem.W.Frag) : Sp := fun vs H Q _ => ∃ (a : Addr) (n m : Str) (p : Option Str) (x y : Wd Str), vs = [.ref a, .str n, .str m] ∧ StyAt K H a x y ∧ WdOk x ∧ WdOk y ∧ (n, p) ∈ stayL x y ∧ (m, p) ∈ stayL x y ∧
  Ans H (.bl (!decide (decide (posn x n < posn x m) = decide (posn y n < posn y m)))) Q
def spRightL (K : PySem.W.Frag) : Sp := fun vs H Q _ => ∃ (a b c : Addr) (x y : Wd Str) (ys : List Str), vs = [.ref a, .ref b, .ref c] ∧ WoodAt K H a x ∧ WoodAt K H b y ∧ WdOk x ∧ WdOk y ∧ (Wd.nms x).Perm (Wd.nms y) ∧ Srt x y ys ∧ ValAt K H c (rightV x y ys) ∧ Ans H (.bl true) Q
theorem lt_cast (i j : Nat) : decide (((i : Nat) : Int) < ((j : Nat) : Int)) = decide (i < j) := by
  by_cases h : i < j
  · rw [decide_eq_true h, decide_eq_true (by omega)]
  · rw [decide_eq_false h, decide_eq_false (by omega)]
section
variable {P : Program} {w : World} {K : PySem.W.Frag} {mg : Str → Option Value} {base : Heap}
abbrev N_law_is_turned : List Str := ["_law_stay", "_law_name_here", "_law_its", "_law_here", "_law_there"]
theorem sc_law_is_turned : FnScope N_law_is_turned ["_law_stay", "_law_name_here", "_law_its"] (defScope (top 64)) := ⟨rfl, rfl, rfl, by decide +kernel, rfl, by decide +kernel, by decide +kernel⟩
theorem cal_law_is_turned (T : Tp K mg) (F : Fnn K mg "_law_is_turned" 64)   : Cal P w K mg base 1 "_law_is_turned" (spTurned K) := by
  have nd := sc_law_is_turned.nd
  refine cal F (fun _ _ _ _ _ _ us hl => match us, hl with | [_, _, _], _ => rfl) sc_law_is_turned (fun vs H Q E h => by obtain ⟨a, n, m, p, x, y, rfl, ⟨kvs, os, hk, _, _, hv⟩, ox, oy, hn, hm, q⟩ := h; rfl) (fun f cdv A outer s H vs Q E hr h => ?_)
  have hu := hu_of hr
  refine ⟨_, (pss_cons (ps_if (pt_cmpR op_ne (pe_ix ix_tup (pe_dget hu (pv 0) (pv 1) (fun _ _ => rfl)) pe_int (fun _ _ => rfl)) (pe_ix ix_tup (pe_dget hu (pv 0) (pv 2) (fun _ _ => rfl)) pe_int (fun _ _ => rfl)) (nomark _)) (pss_one (ps_ret pe_bl)) pss_nil)
      (pss_cons (ps_set (i := 3) nd rfl (.inl rfl) (pe_cmpR op_lt (pe_ix ix_tup (pe_dget hu (pv 0) (pv 1) (fun _ _ => rfl)) pe_int (fun _ _ => rfl)) (pe_ix ix_tup (pe_dget hu (pv 0) (pv 2) (fun _ _ => rfl)) pe_int (fun _ _ => rfl)) (nomark _)))
      (pss_cons (ps_set (i := 4) nd rfl (.inl rfl) (pe_cmpR op_lt (pe_ix ix_tup (pe_dget hu (pv 0) (pv 1) (fun _ _ => rfl)) pe_int (fun _ _ => rfl)) (pe_ix ix_tup (pe_dget hu (pv 0) (pv 2) (fun _ _ => rfl)) pe_int (fun _ _ => rfl)) (nomark _)))
      (pss_one (ps_ret (pe_cmpR op_ne (pv 3) (pv 4) (nomark _))))))), ?_⟩
  obtain ⟨a, n, m, p, x, y, rfl, ⟨kvs, os, hk, _, _, hv⟩, ox, oy, hn, hm, q⟩ := h
  obtain ⟨t1, h1, h2⟩ := hv n p hn
  obtain ⟨t2, h3, h4⟩ := hv m p hm
  have g1 := DGet.k (k := kS n) hk
  rw [h1] at g1
  have g2 := DGet.k (k := kS m) hk
  rw [h3] at g2
  have g1 : DGet H a (.str n) (some (.ref t1)) := g1
  have g2 : DGet H a (.str m) (some (.ref t2)) := g2
  refine ⟨_, rfl, _, rfl, _, _, rfl, g1, t1, _, _, _, rfl, rfl, h2, rfl, _, rfl, _, rfl, _, _, rfl, g2, t2, _, _, _, rfl, rfl, h4, rfl, rfl, _, rfl, ifE false (by simp) ?_⟩
  refine ⟨_, rfl, _, rfl, _, _, rfl, g1, t1, _, _, _, rfl, rfl, h2, rfl, _, rfl, _, rfl, _, _, rfl, g2, t2, _, _, _, rfl, rfl, h4, rfl, _, _, rfl, rfl, ?_⟩
  refine ⟨_, rfl, _, rfl, _, _, rfl, g1, t1, _, _, _, rfl, rfl, h2, rfl, _, rfl, _, rfl, _, _, rfl, g2, t2, _, _, _, rfl, rfl, h4, rfl, _, _, rfl, rfl, ?_⟩
  refine ⟨_, rfl, _, rfl, rfl, ?_⟩
  obtain ⟨hnx, hny⟩ := stay_mem.mp hn
  obtain ⟨hmx, hmy⟩ := stay_mem.mp hm
  have c1 : decide (posn x n < posn x m) = decide ((CK x (par p)).idxOf n < (CK x (par p)).idxOf m) := decide_eq_decide.mpr (CK_idx ox (par_in ox hnx).1 (par_in ox hmx).1).symm
  have c2 : decide (posn y n < posn y m) = decide ((CK y (par p)).idxOf n < (CK y (par p)).idxOf m) := decide_eq_decide.mpr (CK_idx oy (par_in oy hny).1 (par_in oy hmy).1).symm
  have q := q H (Same.refl H)
  rw [c1, c2, ← lt_cast, ← lt_cast] at q
  have e : (!decide (V.bl (decide ((((CK x (par p)).idxOf n : Nat) : Int) < (((CK x (par p)).idxOf m : Nat) : Int))) = V.bl (decide ((((CK y (par p)).idxOf n : Nat) : Int) < (((CK y (par p)).idxOf m : Nat) : Int))))) = !decide (decide ((((CK x (par p)).idxOf n : Nat) : Int) < (((CK x (par p)).idxOf m : Nat) : Int)) = decide ((((CK y (par p)).idxOf n : Nat) : Int) < (((CK y (par p)).idxOf m : Nat) : Int))) := by
    congr 1
    exact decide_eq_decide.mpr ⟨V.bl.inj, fun z => by rw [z]⟩
  rw [← e] at q
  exact q
abbrev N_law_right_labels : List Str := ["_law_one", "_law_other", "_law_value", "_law_stay", "_law_pair", "_law_k", "_law_name_here", "_law_label", "_law_same", "_law_its", "_law_its_label"]
theorem sc_law_right_labels : FnScope N_law_right_labels ["_law_one", "_law_other", "_law_value"] (defScope (top 65)) := ⟨rfl, rfl, rfl, by decide +kernel, rfl, by decide +kernel, by decide +kernel⟩
theorem cal_law_right_labels (T : Tp K mg) (F : Fnn K mg "_law_right_labels" 65)  (c__law_staying : Cal P w K mg base 3 "_law_staying" (spSty K)) (c__law_is_turned : Cal P w K mg base 1 "_law_is_turned" (spTurned K)) : Cal P w K mg base 4 "_law_right_labels" (spRightL K) := by
  have nd := sc_law_right_labels.nd
  refine cal F (fun _ _ _ _ _ _ us hl => match us, hl with | [_, _, _], _ => rfl) sc_law_right_labels (fun vs H Q E h => by obtain ⟨a, b, c, x, y, ys, rfl, hx, hy, ox, oy, hp, hs, hv, q⟩ := h; rfl) (fun f cdv A outer s H vs Q E hr h => ?_)
  have hu := hu_of hr
  refine ⟨_, (pss_cons (ps_set (i := 3) nd rfl (.inl rfl) (pe_cc c__law_staying hr (by decide) (by rfl) (pa_cons (pv 0) (pa_cons (pv 1) pa_nil))))
      (pss_cons (ps_if (pt_not (pt_val (pe_callB call_isi (by rfl) T.b_isinstance (by decide +kernel) (pa_cons (pv 2) (pa_cons (pe_bltn (v := .ty "tuple") (by rfl) T.b_tuple (by decide +kernel) rfl) pa_nil))))) (pss_one (ps_ret pe_bl)) pss_nil)
      (pss_cons (ps_for PassesOwn.never rfl (pi_tup (pv 2)) (pg_name (i := 4) nd rfl (.inl rfl)) (pss_cons (ps_if (PW.pt (pw_or (pt_not (pt_val (pe_callB call_isi (by rfl) T.b_isinstance (by decide +kernel) (pa_cons (pv 4) (pa_cons (pe_bltn (v := .ty "tuple") (by rfl) T.b_tuple (by decide +kernel) rfl) pa_nil))))) (pw_or1 (pt_cmpR op_ne (pe_callB call_len (by rfl) T.b_len (by decide +kernel) (pa_cons (pv 4) pa_nil)) pe_int (nomark _))))) (pss_one (ps_ret pe_bl)) pss_nil)
      (pss_one (ps_if (PW.pt (pw_or (pt_not (pt_val (pe_callB call_isi (by rfl) T.b_isinstance (by decide +kernel) (pa_cons (pe_ix ix_tup (pv 4) pe_int (fun _ _ => rfl)) (pa_cons (pe_bltn (v := .ty "int") (by rfl) T.b_int (by decide +kernel) rfl) pa_nil))))) (pw_or (pt_val (pe_callB call_isi (by rfl) T.b_isinstance (by decide +kernel) (pa_cons (pe_ix ix_tup (pv 4) pe_int (fun _ _ => rfl)) (pa_cons (pe_bltn (v := .ty "bool") (by rfl) T.b_bool (by decide +kernel) rfl) pa_nil)))) (pw_or1 (pt_cmpR op_lt (pe_ix ix_tup (pv 4) pe_int (fun _ _ => rfl)) pe_int (nomark _)))))) (pss_one (ps_ret pe_bl)) pss_nil))))
      (pss_cons (ps_if (pt_cmpR (op_neD hr.units) (pe_lc (own := [("_law_pair", 4)]) rfl nd (pi_tup (pv 2)) (blkOk_by (own := [("_law_pair", 4)]) (N := N_law_right_labels) (sc := defScope (top 65)) (by decide +kernel)) (fun _ _ _ _ _ => (pg_name (i := 4) nd rfl (.inl rfl))) (fun _ _ _ _ _ => pts_nil) (fun _ _ _ _ _ => (pe_ix (ix_tupK (K := K) rfl) (pv 4) pe_int (fun _ _ => rfl)))) (pe_callB cr_sortS (by rfl) T.b_sorted (by decide +kernel) (pa_cons (pe_callTy (call_list_keys rfl) (by rfl) T.b_list (by decide +kernel) (pa_cons (pe_keysV (pv 3)) pa_nil)) pa_nil)) (nomark _)) (pss_one (ps_ret pe_bl)) pss_nil)
      (pss_cons (ps_for PassesOwn.never rfl (pi_range1 (by rfl) T.b_range (pa_cons (pe_callB call_len (by rfl) T.b_len (by decide +kernel) (pa_cons (pv 2) pa_nil)) pa_nil)) (pg_name (i := 5) nd rfl (.inl rfl)) (pss_cons (ps_asg (pe_ix ix_tup (pv 2) (pv 5) (fun _ _ => rfl)) (pg_tup rfl (pgs_cons (pg_name (i := 6) nd rfl (.inl rfl)) (pgs_cons (pg_name (i := 7) nd rfl (.inr rfl)) pgs_nil))))
      (pss_cons (ps_setLc (i := 8) (own := [("_law_its", 9), ("_law_its_label", 10)]) rfl nd rfl rfl (sw_true rfl rfl rfl (by decide +kernel)) (pi_tup (pe_slice sl_tupA (pv 2) po_none (po_some (pv 5)))) (blkOk_by (own := [("_law_its", 9), ("_law_its_label", 10)]) (N := N_law_right_labels) (sc := defScope (top 65)) (by decide +kernel)) (fun _ _ _ _ _ => (pg_tupK (K := K) (n := 2) rfl rfl (pgs_cons (pg_name (i := 9) nd rfl (.inl rfl)) (pgs_cons (pg_name (i := 10) nd rfl (.inl rfl)) pgs_nil)))) (fun _ _ _ _ _ => (pts_one (pt_cmpR op_eq (pv 10) (pv 7) (nomark _)))) (fun _ _ _ _ _ => (pv 9)))
      (pss_one (ps_for PassesOwn.never rfl (pi_list (pv 8)) (pg_name (i := 9) nd rfl (.inl rfl)) (pss_one (ps_if (PW.pt (pw_and (pt_cmpR op_eq (pe_ix ix_tup (pe_dget hu (pv 3) (pv 9) (fun _ _ => rfl)) pe_int (fun _ _ => rfl)) (pe_ix ix_tup (pe_dget hu (pv 3) (pv 6) (fun _ _ => rfl)) pe_int (fun _ _ => rfl)) (nomark _)) (pw_and1 (pt_not (pt_val (pe_cc c__law_is_turned hr (by decide) (by rfl) (pa_cons (pv 3) (pa_cons (pv 6) (pa_cons (pv 9) pa_nil))))))))) (pss_one (ps_ret pe_bl)) pss_nil)))))))
      (pss_one (ps_ret pe_bl))))))), ?_⟩
  obtain ⟨a, b, c, x, y, ys, rfl, hx, hy, ox, oy, hp, hs, hv, q⟩ := h
  refine ⟨_, rfl, _, rfl, a, b, x, y, rfl, hx, hy, ox, oy, hp, fun pd H1 np1 s1 hst => ?_⟩
  obtain ⟨vs0, hvs, hval⟩ := hv.same (Kp.of s1)
  refine ⟨_, rfl, _, _, .type "tuple", _, true, rfl, .ty "tuple", tyT hvs, kit_ty (by decide +kernel), _, rfl, ifE false rfl ?_⟩
  have hyl : ys.length ≤ 200 := by
    have := hs.pm.length_eq
    have h2 := stay_le (y := y) ox
    rw [List.length_map] at this
    omega
  have hv0 : vs0.length = ys.length := by rw [hval.len, rightV, List.length_map]
  refine ⟨_, rfl, c, rfl, ⟨_, hvs⟩, ?_⟩
  refine for_it (walk_tup (K := K) (a := c) (xs := vs0)) (fun i σ' H' => ∃ u, σ' = [some (.ref a), some (.ref b), some (.ref c), some (.ref pd), u, none, none, none, none, none, none] ∧ Same H1 H') ⟨_, rfl, Same.refl H1⟩ ?_ ?_ ?_
  · rintro i σ' H' _ ⟨u, rfl, sm⟩
    exact sameT sm hvs
  · rintro i v σ' H2 H3 hi ⟨u, rfl, sm⟩ ⟨rfl, hvv⟩
    obtain ⟨⟨n, k⟩, hz, t, rfl, ht⟩ := hval.get hvv
    have ht := sameT sm ht
    refine ⟨_, rfl, _, _, .type "tuple", _, true, rfl, .ty "tuple", tyT ht, kit_ty (by decide +kernel), _, rfl, ?_⟩
    refine ⟨_, rfl, _, _, rfl, .inr ⟨_, ht, rfl⟩, rfl, _, rfl, ifE false rfl ?_⟩
    refine ⟨_, rfl, t, _, _, _, rfl, rfl, ht, rfl, _, _, .type "int", _, true, rfl, .ty "int", .base (.int _), kit_ty (by decide +kernel), _, rfl, ?_⟩
    refine ⟨_, rfl, t, _, _, _, rfl, rfl, ht, rfl, _, _, .type "int", _, false, rfl, .ty "bool", .base (.int _), kit_ty (by decide +kernel), _, rfl, ?_⟩
    refine ⟨_, rfl, t, _, _, _, rfl, rfl, ht, rfl, _, _, rfl, rfl, _, rfl, ifE false (decide_eq_false (by show ¬ ((k : Nat) : Int) < 0; omega)) ?_⟩
    exact ⟨_, rfl, sm⟩
  rintro σ' H2 ⟨u, rfl, s2⟩
  have s12 := s1.trans s2
  obtain ⟨kvs, os, hk, hkk, hko, hkv⟩ := StyAt.same s2 hst
  have hvs2 := sameT s2 hvs
  have hgets : ∀ {i : Nat} {v : V} {H' : Hp}, Same H1 H' → vs0[i]? = some v → ∃ n p f t, ys[i]? = some n ∧ (n, p, f) ∈ lensF x y ∧ v = .ref t ∧ SqT K H' t [.str n, .int ((f - 1 : Nat) : Int)] := fun {i v H'} s h => by
    obtain ⟨z, hz, t, e, ht⟩ := hval.get h
    unfold rightV at hz
    rw [List.getElem?_map] at hz
    cases hz2 : ys[i]? with
    | none => rw [hz2] at hz; cases hz
    | some n =>
      rw [hz2] at hz; cases hz
      obtain ⟨z, hz3, rfl⟩ := List.mem_map.mp (hs.pm.subset (List.mem_of_getElem? hz2))
      obtain ⟨f, hf⟩ := stay_F (x := z.1) (p := z.2) hz3
      exact ⟨z.1, z.2, f, t, rfl, hf, e, by rw [← lbl_of ox hf]; exact sameT s ht⟩
  refine ⟨_, rfl, c, rfl, ⟨_, hvs2⟩, fun D hD => ?_⟩
  refine lc_rel (H1 := H2) ys (fun n H v => ∃ t k, v = .ref t ∧ SqT K H t [.str n, .int k]) (fun H v n => v = .str n) (fun _ _ _ _ s h => h) (fun _ => true) (walk_tup (K := K) (a := c) (xs := vs0)) hv0 ?_ hD (by omega) (fun H s => sameT s hvs2) ?_ ?_
  · rintro i H3 v H4 sm ⟨rfl, hvv⟩
    obtain ⟨n, p, f, t, h1, h2, h3, h4⟩ := hgets (s2.trans sm) hvv
    exact ⟨rfl, n, h1, t, _, h3, h4⟩
  · rintro i n v H4 Qn Qf hi ⟨t, k, rfl, ht⟩ s4 k1 k2
    exact ⟨rfl, _, rfl, t, _, _, _, rfl, rfl, ht, rfl, k1 H4 _ (Same.refl _) rfl rfl⟩
  intro H4 zs s4 hzs halz
  rw [flt_all] at halz
  have hz : zs = ys.map V.str := by have := al_strs (f := fun n : Str => n) halz; rwa [List.map_id'] at this
  subst hz
  have e4 := s4 _ _ hk
  refine ⟨_, rfl, pd, kvs, rfl, e4, fun v hvv => ?_⟩
  generalize hE_H5 : upd H4 v _ = H5
  have e5 := (congrFun hE_H5 v).symm.trans upd_same
  have n5 : ∀ q_, q_ ≠ v → H5 q_ = H4 q_ := by subst hE_H5; exact fun q_ h => upd_ne h
  have s5 : Same H4 H5 := by subst hE_H5; exact same_new hvv
  clear hE_H5
  refine ⟨v, pd, kvs, rfl, e5, s5 _ _ e4, fun l hl => ?_⟩
  generalize hE_H6 : upd H5 l _ = H6
  have e6 := (congrFun hE_H6 l).symm.trans upd_same
  have n6 : ∀ q_, q_ ≠ l → H6 q_ = H5 q_ := by subst hE_H6; exact fun q_ h => upd_ne h
  have s6 : Same H5 H6 := by subst hE_H6; exact same_new hl
  clear hE_H6
  have hkeys : (kvs.map fun kv => kV kv.1) = os.map V.str := by
    rw [show (kvs.map fun kv => kV kv.1) = (kvs.map (·.1)).map kV by rw [List.map_map]; rfl, hkk, List.map_map]
    rfl
  rw [hkeys] at e6
  refine ⟨l, _, rfl, .inl (.inl e6), fun zs p7 hpm hso hp7 => ?_⟩
  generalize hE_H7 : upd H6 p7 _ = H7
  have e7 := (congrFun hE_H7 p7).symm.trans upd_same
  have n7 : ∀ q_, q_ ≠ p7 → H7 q_ = H6 q_ := by subst hE_H7; exact fun q_ h => upd_ne h
  have s7 : Same H6 H7 := by subst hE_H7; exact same_new hp7
  clear hE_H7
  have ez : ys = zs := sorted_uniq (hs.pm.trans (hko.symm.trans hpm.symm)) hs.so hso
  subst ez
  have so : ∀ s ∈ ys, strO s := fun s h => by
    obtain ⟨z, hz, rfl⟩ := List.mem_map.mp (hs.pm.subset h)
    exact ox.strO _ (par_nm (stay_mem.mp hz).1)
  have s47 := (s5.trans s6).trans s7
  refine ⟨.list (ys.map .str), .list (ys.map .str), .lst (.inl (.inl (s47 _ _ hzs))) (dp_strs _), .lst (.inl (.inl e7)) (dp_strs _), shaped_lst so, shaped_lst so, _, rfl, ifE false ?_ ?_⟩
  · rw [PyData.eqv, eqv_strs]
    simp
  have s17 := (s2.trans s4).trans s47
  have hvs7 := sameT s17 hvs
  have hynd : ys.Nodup := hs.pm.nodup_iff.mpr (stay_nd ox)
  have hsty : StyAt K H7 pd x y := StyAt.same s17 hst
  obtain ⟨_, _, hk7, _, _, hkv7⟩ := id hsty
  have gst : ∀ {n p f}, (n, p, f) ∈ lensF x y → ∀ H', Same H7 H' → ∃ t, DGet H' pd (.str n) (some (.ref t)) ∧ SqT K H' t [.str (par p), .int ((CK x (par p)).idxOf n : Nat), .int ((CK y (par p)).idxOf n : Nat)] := fun {n p f} h H' s => by
    obtain ⟨t, h1, h2⟩ := hkv7 n p (F_stay h)
    have g := DGet.k (k := kS n) (s _ _ hk7)
    rw [h1] at g
    exact ⟨t, g, sameT s h2⟩
  refine ⟨_, rfl, _, _, rfl, .inr ⟨_, hvs7, rfl⟩, _, rfl, by omega, by omega, ?_⟩
  rw [show ((vs0.length : Nat) : Int).toNat = vs0.length by omega]
  refine for_it (walk_range (lo := 0) (n := vs0.length)) (fun i σ' H' => ∃ (u4 u5 u6 u7 u8 u9 u10 : Option V), σ' = [some (.ref a), some (.ref b), some (.ref c), some (.ref pd), u4, u5, u6, u7, u8, u9, u10] ∧ Same H7 H') ⟨_, _, _, _, _, _, _, rfl, Same.refl _⟩ (fun _ _ _ _ _ => trivial) ?_ ?_
  · rintro i v σ' H8 H9 hi ⟨u4, u5, u6, u7, u8, u9, u10, rfl, sm⟩ ⟨rfl, rfl⟩
    obtain ⟨v, hvi⟩ : ∃ v, vs0[i]? = some v := ⟨_, List.getElem?_eq_getElem hi⟩
    obtain ⟨n, p, f, t, hn, hf, rfl, ht⟩ := hgets (s17.trans sm) hvi
    have k0 : (0 + (i : Int)) = ((i : Nat) : Int) := by omega
    show gName 5 (V.int (0 + (i : Int))) _ _ _
    rw [k0]
    refine ⟨_, rfl, _, rfl, c, vs0, _, .ref t, rfl, rfl, sameT sm hvs7, atI_nat hvi, t, _, rfl, ht, rfl, _, _, rfl, _, _, rfl, rfl, ?_⟩
    refine ⟨_, rfl, _, rfl, _, rfl, c, _, rfl, sameT sm hvs7, ?_, fun _ ps hps => ?_⟩
    · intro z
      exfalso
      have := z.2
      rw [HT.sIx_nat] at this
      omega
    generalize hE_H10 : upd H9 ps _ = H10
    have e10 := (congrFun hE_H10 ps).symm.trans upd_same
    have n10 : ∀ q_, q_ ≠ ps → H10 q_ = H9 q_ := by subst hE_H10; exact fun q_ h => upd_ne h
    have s10 : Same H9 H10 := by subst hE_H10; exact same_new hps
    clear hE_H10
    have hcut : cutV vs0 none (some ((i : Nat) : Int)) = vs0.take i := by
      unfold cutV
      rw [HT.sIx_nat, Nat.min_eq_left (by omega)]
      simp [HT.sIx]
    rw [hcut] at e10
    refine ⟨ps, rfl, ⟨_, .inl (.inl e10)⟩, fun D2 hD2 => ?_⟩
    have sm10 := sm.trans s10
    refine lc_rel (H1 := H10) (ys.take i) (fun m H v => ∃ t g, v = .ref t ∧ SqT K H t [.str m, .int ((lblOf x y m : Nat) : Int)] ∧ g = 0) (fun H v m => v = .str m) (fun _ _ _ _ s h => h) (fun m => decide (lblOf x y m = f - 1)) (walk_tup (K := K) (a := ps) (xs := vs0.take i)) (by rw [List.length_take, List.length_take, hv0]) ?_ hD2 (by rw [List.length_take]; omega) (fun H s => .inl (.inl (s _ _ e10))) ?_ ?_
    · rintro j H3 v H4 sm3 ⟨rfl, hvv⟩
      have hj : j < i := by
        have h1 := (List.getElem?_eq_some_iff.mp hvv).1
        rw [List.length_take] at h1
        omega
      rw [List.getElem?_take_of_lt hj] at hvv
      obtain ⟨m, p2, g, t, h1, h2, h3, h4⟩ := hgets ((s17.trans sm10).trans sm3) hvv
      exact ⟨rfl, m, by rw [List.getElem?_take_of_lt hj]; exact h1, t, 0, h3, by rw [lbl_of ox h2]; exact h4, rfl⟩
    · rintro j m v H11 Qn Qf hj ⟨t, g, rfl, ht, _⟩ s11 k1 k2
      refine ⟨t, _, rfl, ht, rfl, _, _, rfl, _, _, rfl, rfl, rfl, _, rfl, _, rfl, rfl, _, rfl, ?_⟩
      have e : decide (V.int ((lblOf x y m : Nat) : Int) = V.int ((f - 1 : Nat) : Int)) = decide (lblOf x y m = f - 1) := decide_eq_decide.mpr ⟨fun z => by have := V.int.inj z; omega, fun z => by rw [z]⟩
      show if decide (V.int ((lblOf x y m : Nat) : Int) = V.int ((f - 1 : Nat) : Int)) = true then _ else _
      rw [e]
      exact ifB (fun h => ⟨_, rfl, k1 H11 _ (Same.refl _) h rfl⟩) (fun h => k2 H11 (Same.refl _) h)
    intro H11 zs2 s11 hzs2 halz2
    have hz2 : zs2 = ((ys.take i).filter fun m => decide (lblOf x y m = f - 1)).map V.str := by have := al_strs (f := fun n : Str => n) halz2; rwa [List.map_id'] at this
    subst hz2
    have sm11 := sm10.trans s11
    refine ⟨_, rfl, D2, rfl, ⟨_, .inl (.inl hzs2)⟩, ?_⟩
    refine for_it (walk_list (K := K) (a := D2) (xs := ((ys.take i).filter fun m => decide (lblOf x y m = f - 1)).map V.str)) (fun j σ' H' => ∃ (u8 u9 u10 : Option V), σ' = [some (.ref a), some (.ref b), some (.ref c), some (.ref pd), u4, some (.int ((i : Nat) : Int)), some (.str n), some (.int ((f - 1 : Nat) : Int)), u8, u9, u10] ∧ Same H11 H') ⟨_, _, _, rfl, Same.refl _⟩ ?_ ?_ ?_
    · rintro j σ' H' _ ⟨u8, u9, u10, rfl, s⟩
      exact .inl (.inl (s _ _ hzs2))
    · rintro j v σ' H12 H13 hj ⟨u8, u9, u10, rfl, s12⟩ ⟨rfl, hvv⟩
      have hvv : (((ys.take i).filter fun m => decide (lblOf x y m = f - 1)).map V.str)[j]? = some v := hvv
      rw [List.getElem?_map] at hvv
      obtain ⟨m, hm, rfl⟩ : ∃ m, ((ys.take i).filter fun m => decide (lblOf x y m = f - 1))[j]? = some m ∧ v = .str m := by
        cases h : ((ys.take i).filter fun m => decide (lblOf x y m = f - 1))[j]? with
        | none => rw [h] at hvv; cases hvv
        | some m => rw [h] at hvv; exact ⟨m, rfl, (Option.some.inj hvv).symm⟩
      have hmf := List.mem_filter.mp (List.mem_of_getElem? hm)
      have hlm := of_decide_eq_true hmf.2
      have hmy : m ∈ ys := List.mem_of_mem_take hmf.1
      obtain ⟨w0, hw, ew⟩ := List.mem_map.mp (hs.pm.subset hmy)
      obtain ⟨m', p2⟩ := w0
      simp only at ew
      subst ew
      obtain ⟨g, hg⟩ := stay_F (x := m') (p := p2) hw
      rw [lbl_of ox hg] at hlm
      have hmn : n ≠ m' := fun e => by
        subst e
        have h1 : i < ys.length := (List.getElem?_eq_some_iff.mp hn).1
        obtain ⟨j2, hj2⟩ := List.mem_iff_getElem?.mp hmf.1
        have hj3 : j2 < i := by
          have h2 := (List.getElem?_eq_some_iff.mp hj2).1
          rw [List.length_take] at h2
          omega
        rw [List.getElem?_take_of_lt hj3] at hj2
        have := (List.getElem?_inj h1 hynd).mp (hn.trans hj2.symm)
        omega
      have sm13 := sm11.trans s12
      obtain ⟨t1, g1, g2⟩ := gst hg _ sm13
      obtain ⟨t2, g3, g4⟩ := gst hf _ sm13
      refine ⟨_, rfl, _, rfl, _, _, rfl, g1, t1, _, _, _, rfl, rfl, g2, rfl, _, rfl, _, rfl, _, _, rfl, g3, t2, _, _, _, rfl, rfl, g4, rfl, rfl, _, rfl, ?_⟩
      by_cases hpp : p2 = p
      · subst hpp
        refine ifE true (by simp) ⟨_, rfl, _, rfl, _, rfl, pd, n, m', p2, x, y, rfl, StyAt.same sm13 hsty, ox, oy, F_stay hf, hw, fun H14 s14 => ⟨_, rfl, ifE false ?_ ⟨_, _, _, rfl, s12.trans s14⟩⟩⟩
        rw [right_pair ox (fun z hz => hp.subset hz) hf hg hmn hlm.symm]
        cases decide (posn y n < posn y m') <;> rfl
      · refine ifE false (decide_eq_false fun z => hpp ?_) (ifE false rfl ⟨_, _, _, rfl, s12⟩)
        exact (par_inj ox ox (stay_mem.mp hw).1 (stay_mem.mp (F_stay hf)).1).mp (V.str.inj z)
    · rintro σ' H12 ⟨u8, u9, u10, rfl, s12⟩
      exact ⟨_, _, _, _, _, _, _, rfl, sm11.trans s12⟩
  · rintro σ' H8 ⟨u4, u5, u6, u7, u8, u9, u10, rfl, sm⟩
    exact q H8 ((s1.trans s17).trans sm)
end
end K76
/-! text D5 -/
set_option Elab.async false
set_option linter.all false
set_option maxRecDepth 100000
set_option maxHeartbeats 1000000
namespace K76
open PySem PySem.Spec PyProof.Rows L2
theorem al_true {α : Type} : ∀ {bs : List V} {zs : List α}, Al (fun v _ => v = V.bl true) bs zs → bs = (List.replicate bs.length true).map V.bl
  | [], [], _ => rfl
  | _ :: _, _ :: _, h => by
    have ih := al_true h.2
    rw [List.length_cons, List.replicate_succ, List.map_cons, ← ih, h.1]
  | [], _ :: _, h => h.elim
  | _ :: _, [], h => h.elim
theorem mvAll_wood {x : Wd Str} (nd : (Wd.nms x).Nodup) {ds : List (Mv Str)} {l : List (En Str)} (h : mvAll (Wd.row x) ds = some l) : ∃ z : Wd Str, Wd.row z = l ∧ (Wd.nms z).Perm (Wd.nms x) := by
  induction ds generalizing x with
  | nil => exact ⟨x, Option.some.inj h, List.Perm.refl _⟩
  | cons d ds ih =>
    have h2 : ((mvd (Wd.row x) d).bind fun l' => mvAll l' ds) = some l := h
    cases e : mvd (Wd.row x) d with
    | none => rw [e] at h2; cases h2
    | some m =>
      rw [e] at h2
      obtain ⟨y, rfl, hp⟩ := mvd_wood nd e
      obtain ⟨z, hz, hq⟩ := ih (hp.nodup_iff.mpr nd) h2
      exact ⟨z, hz, hq.trans hp⟩
theorem shaped_two {ss : List Str} (h : ∀ s ∈ ss, strO s) : SeqAt.shaped (.tuple [.str "does", .tuple (ss.map .str)]) = true := by
  obtain ⟨h1, h2⟩ := lay_strs h
  unfold SeqAt.shaped
  rw [PyData.canLay0, PyData.canLayAll0, PyData.canLayAll0, PyData.canLayAll0, PyData.canLay0, PyData.canLay0, h1]
  simp only [PyData.depth, PyData.depthAll, h2]
  decide +kernel
end K76
/-! text S1 -/
set_option Elab.async false
set_option linter.all false
set_option maxRecDepth 100000
set_option maxHeartbeats 2000000
namespace K76
open PySem PySem.Spec PyProof.Rows L2
/-! ### rounds of a table: which slots a run's starts meet -/
/-- the slots met by n steps from i, as bits -/
def met (m : Nat) : Nat → Nat → Nat → Nat
  | 0, _, acc => acc
  | n + 1, i, acc => met m n ((i * 5 + 1) % (m + 1)) (acc ||| 2 ^ i)
theorem lcgI_next (m i : Nat) : ∀ b, lcgI m ((i * 5 + 1) % (m + 1)) b = lcgI m i (b + 1)
  | 0 => rfl
  | b + 1 => by
    show (lcgI m ((i * 5 + 1) % (m + 1)) b * 5 + 1) % (m + 1) = (lcgI m i (b + 1) * 5 + 1) % (m + 1)
    rw [lcgI_next m i b]
theorem met_bit (m : Nat) : ∀ (n i acc j : Nat), (met m n i acc).testBit j = true → acc.testBit j = true ∨ ∃ b, b < n ∧ lcgI m i b = j
  | 0, _, _, _, h => .inl h
  | n + 1, i, acc, j, h => by
    rcases met_bit m n _ _ j h with h | ⟨b, hb, e⟩
    · rw [Nat.testBit_or, Bool.or_eq_true] at h
      rcases h with h | h
      · exact .inl h
      · have e : i = j := by rw [Nat.testBit_two_pow] at h; exact of_decide_eq_true h
        exact .inr ⟨0, Nat.succ_pos _, e⟩
    · exact .inr ⟨b + 1, Nat.succ_lt_succ hb, by rw [← lcgI_next]; exact e⟩
/-- a mask whose round meets every slot and comes back -/
structure Msk (m : Nat) : Prop where
  full : met m (m + 1) 0 0 = 2 ^ (m + 1) - 1
  back : lcgI m 0 (m + 1) = 0
  odd : m % 2 = 1
theorem msk7 : Msk 7 := ⟨by decide +kernel, by decide +kernel, rfl⟩
theorem msk31 : Msk 31 := ⟨by decide +kernel, by decide +kernel, rfl⟩
theorem msk127 : Msk 127 := ⟨by decide +kernel, by decide +kernel, rfl⟩
theorem msk511 : Msk 511 := ⟨by decide +kernel, by decide +kernel, rfl⟩
section
variable {m : Nat}
theorem Msk.hits (M : Msk m) {j : Nat} (hj : j ≤ m) : ∃ b, b ≤ m ∧ lcgI m 0 b = j := by
  have h : (met m (m + 1) 0 0).testBit j = true := by
    rw [M.full, Nat.testBit_two_pow_sub_one]
    exact decide_eq_true (by omega)
  rcases met_bit m _ _ _ _ h with h | ⟨b, hb, e⟩
  · rw [Nat.zero_testBit] at h; cases h
  · exact ⟨b, by omega, e⟩
theorem lcgI_far (m i a : Nat) : ∀ b, lcgI m (lcgI m i a) b = lcgI m i (a + b)
  | 0 => rfl
  | b + 1 => congrArg (fun z => (z * 5 + 1) % (m + 1)) (lcgI_far m i a b)
theorem Msk.reach (M : Msk m) {i j : Nat} (hi : i ≤ m) (hj : j ≤ m) : ∃ b, b ≤ m ∧ lcgI m i b = j := by
  obtain ⟨a, ha, rfl⟩ := M.hits hi
  obtain ⟨c, hc, rfl⟩ := M.hits hj
  by_cases h : a ≤ c
  · exact ⟨c - a, by omega, by rw [lcgI_far, show a + (c - a) = c by omega]⟩
  · refine ⟨(m + 1 - a) + c, by omega, ?_⟩
    rw [lcgI_far, show a + ((m + 1 - a) + c) = (m + 1) + c by omega, ← lcgI_far, M.back]
theorem Msk.run (M : Msk m) (h : Int) {j : Nat} (hj : j ≤ m) : ∃ n, n ≤ m + 12 ∧ runI m (SetTable.bits h) n = j := by
  obtain ⟨b, hb, e⟩ := M.reach (runI_le m (SetTable.bits h) 12) hj
  refine ⟨12 + b, by omega, ?_⟩
  rw [runI_tail (bits_lt h) b]
  exact e
theorem Msk.step (M : Msk m) (h : Int) {j : Nat} (hj : j ≤ m) : ∃ k, k < 10 * SetTable.turns m ∧ way m h k = j := by
  obtain ⟨n, hn, e⟩ := M.run h hj
  obtain ⟨k, hk, ek⟩ := run_nth m (SetTable.bits h) n
  have z : 10 * n < 10 * SetTable.turns m := by unfold SetTable.turns; omega
  refine ⟨k, by omega, ?_⟩
  show (nth m _ k).j = j
  rw [ek]
  exact e
theorem way_in (h : Int) (k : Nat) : way m h k ≤ m := by
  have h1 : SetTable.bits h % (m + 1) ≤ m := Nat.le_of_lt_succ (Nat.mod_lt _ (Nat.succ_pos _))
  unfold way
  generalize SetTable.bits h % (m + 1) = i at h1 ⊢
  obtain ⟨h2, h3, _⟩ := runEnd_bd h1
  have h4 := nth_in (m := m) k (runAt m i (SetTable.bits h)) (by show i + (SetTable.runEnd m i - i) ≤ m; omega)
  omega
end
/-! ### a table and the hashes of what is in it -/
structure Tb (t : SetTable) (hs : List Int) : Prop where
  asc : Ris t.place.toList
  dm : t.dummies = #[]
  len : t.place.toList.length = hs.length
  msk : Msk t.mask
  low : ∀ j ∈ t.place.toList, j ≤ t.mask
  road : ∀ (i : Nat) (h : Int), hs[i]? = some h → ∃ k : Nat, t.place.toList[i]? = some (way t.mask h k) ∧ ∀ c, c < k → way t.mask h c ∈ t.place.toList
/-- the road's first free slot -/
theorem Tb.gap {t : SetTable} {hs : List Int} (T : Tb t hs) (room : hs.length ≤ t.mask) (h : Int) : ∃ k, k < 10 * SetTable.turns t.mask ∧ way t.mask h k ∉ t.place.toList ∧ ∀ c, c < k → way t.mask h c ∈ t.place.toList := by
  obtain ⟨j, hj, hno⟩ := st_missing t.place.toList (t.mask + 1) (by rw [T.len]; omega)
  obtain ⟨k, hk, ek⟩ := T.msk.step h (show j ≤ t.mask by omega)
  obtain ⟨l, h1, h2, h3⟩ := st_least (p := fun c => way t.mask h c ∉ t.place.toList) k (by show way t.mask h k ∉ _; rw [ek]; exact hno)
  exact ⟨l, by omega, h2, fun c hc => Classical.not_not.mp (h3 c hc)⟩
/-- who bears the hash stands ahead of the gap -/
theorem Tb.ahead {t : SetTable} {hs : List Int} (T : Tb t hs) {h : Int} {k i : Nat} (hk : way t.mask h k ∉ t.place.toList) (hi : hs[i]? = some h) : ∃ c, c < k ∧ t.place.toList[i]? = some (way t.mask h c) := by
  obtain ⟨c, e, b⟩ := T.road i h hi
  refine ⟨c, ?_, e⟩
  by_cases z : c < k
  · exact z
  · exfalso
    rcases Nat.eq_or_lt_of_le (Nat.le_of_not_lt z) with y | y
    · subst y; exact hk (List.mem_of_getElem? e)
    · exact hk (b k y)
/-- one put into the gap -/
theorem Tb.put {t : SetTable} {hs : List Int} (T : Tb t hs) {h : Int} {k : Nat} (hk : way t.mask h k ∉ t.place.toList) (hb : ∀ c, c < k → way t.mask h c ∈ t.place.toList) (p : Nat) (hp : p = SetTable.below t.place (way t.mask h k)) :
    (t.put (way t.mask h k)).2 = p ∧ p ≤ hs.length ∧ Tb (t.put (way t.mask h k)).1 (hs.take p ++ h :: hs.drop p) ∧ (t.put (way t.mask h k)).1.mask = t.mask ∧ (t.put (way t.mask h k)).1.led = t.led ∧ (t.put (way t.mask h k)).1.plain = t.plain ∧ (t.put (way t.mask h k)).1.moves = t.moves ∧ (t.put (way t.mask h k)).1.fill = hs.length + 1 := by
  have hlow := way_in (m := t.mask) h k
  have hplace := put_place t (way t.mask h k)
  have hd := put_dm T.dm (way t.mask h k)
  rw [← hp] at hplace
  have hpl : p ≤ t.place.toList.length := by rw [hp, Array.length_toList]; exact (below_cut T.asc (way t.mask h k)).1
  have hph : p ≤ hs.length := by rw [← T.len]; exact hpl
  have hnew : t.place[SetTable.below t.place (way t.mask h k)]? ≠ some (way t.mask h k) := fun e => hk (by rw [← Array.getElem?_toList] at e; exact List.mem_of_getElem? e)
  have hlen : (t.put (way t.mask h k)).1.place.toList.length = hs.length + 1 := by rw [hplace, len_ins _ hpl, T.len]
  have keep : ∀ j, j ∈ t.place.toList → j ∈ (t.put (way t.mask h k)).1.place.toList := fun j hj => by rw [hplace]; exact mem_ins.mpr (.inr hj)
  refine ⟨hp.symm, hph, ⟨ris_insert T.asc hnew, hd, by rw [len_ins _ hph]; exact hlen, T.msk, fun j hj => ?_, fun i g hi => ?_⟩, rfl, rfl, rfl, rfl, ?_⟩
  · rw [hplace] at hj
    rcases mem_ins.mp hj with e | e
    · rw [e]; exact hlow
    · exact T.low j e
  · have old : ∀ i', hs[i']? = some g → (t.put (way t.mask h k)).1.place.toList[i]? = t.place.toList[i']? → ∃ c, (t.put (way t.mask h k)).1.place.toList[i]? = some (way t.mask g c) ∧ ∀ c', c' < c → way t.mask g c' ∈ (t.put (way t.mask h k)).1.place.toList := fun i' h1 h2 => by
      obtain ⟨c, e, b⟩ := T.road i' g h1
      exact ⟨c, h2.trans e, fun c' hc' => keep _ (b c' hc')⟩
    rw [tins_get hs hph] at hi
    have hat := tins_get t.place.toList hpl (way t.mask h k) i
    rw [← hplace] at hat
    by_cases c1 : i < p
    · rw [if_pos c1] at hi hat
      exact old i hi hat
    · rw [if_neg c1] at hi hat
      by_cases c2 : i = p
      · rw [if_pos c2] at hi hat
        cases hi
        exact ⟨k, hat, fun c' hc' => keep _ (hb c' hc')⟩
      · rw [if_neg c2] at hi hat
        exact old (i - 1) hi hat
  · show (t.put (way t.mask h k)).1.place.size + (t.put (way t.mask h k)).1.dummies.size = _
    rw [hd, ← Array.length_toList, hlen]
    rfl
end K76
/-! text S2 -/
set_option Elab.async false
set_option linter.all false
set_option maxRecDepth 100000
set_option maxHeartbeats 2000000
namespace K76
open PySem PySem.Spec PyProof.Rows L2
/-! ### a table laid anew -/
section
variable {m : Nat}
theorem seat (M : Msk m) (ow : Array (Option Nat)) (h : Int) {j : Nat} (hj : j ≤ m) (hf : oAt ow j = none) :
    ∃ k, SetTable.layClean.free m ow (SetTable.turns m) (SetTable.bits h % (m + 1)) (SetTable.bits h) = some (way m h k) ∧ oAt ow (way m h k) = none ∧ ∀ c, c < k → oAt ow (way m h c) ≠ none := by
  obtain ⟨n, hn, e⟩ := M.run h hj
  have at_ : way m h (off m (SetTable.bits h % (m + 1)) (SetTable.bits h) n) = j := by
    unfold way
    rw [nth_off, itL_run]
    exact e
  obtain ⟨k, k1, k2, k3⟩ := st_least (p := fun c => oAt ow (way m h c) = none) _ (at_ ▸ hf : oAt ow (way m h (off m (SetTable.bits h % (m + 1)) (SetTable.bits h) n)) = none)
  refine ⟨k, free_spec m ow (SetTable.turns m) n _ _ k ?_ k1 (fun c hc => ?_) ?_, k2, k3⟩
  · unfold SetTable.turns; omega
  · have z := k3 c hc
    show (oAt ow (way m h c)).isNone = false
    cases y : oAt ow (way m h c) with
    | none => exact absurd y z
    | some _ => rfl
  · show (oAt ow (way m h k)).isNone = true
    have z : oAt ow (way m h k) = none := k2
    rw [z]; rfl
/-- the hashes dn have their seats; the k-th of them sits at the first free place of its road -/
structure Sit (m : Nat) (dn : List Int) (ow : Array (Option Nat)) : Prop where
  sz : ow.size = m + 1
  who : ∀ (j k : Nat), j ≤ m → oAt ow j = some k → ∃ (h : Int) (c : Nat), dn[k]? = some h ∧ way m h c = j ∧ ∀ b, b < c → oAt ow (way m h b) ≠ none
  all : ∀ k, k < dn.length → ∃ j, j ≤ m ∧ oAt ow j = some k
  few : ∃ js : List Nat, js.length = dn.length ∧ ∀ j, j ≤ m → oAt ow j ≠ none → j ∈ js
theorem Sit.next (M : Msk m) {dn : List Int} {ow : Array (Option Nat)} (W : Sit m dn ow) (room : dn.length ≤ m) (h : Int) :
    ∃ j, SetTable.layClean.free m ow (SetTable.turns m) (SetTable.bits h % (m + 1)) (SetTable.bits h) = some j ∧ Sit m (dn ++ [h]) (ow.setIfInBounds j (some dn.length)) := by
  obtain ⟨js, hjs, hin⟩ := W.few
  obtain ⟨q, hq, hno⟩ := st_missing js (m + 1) (by omega)
  have hfree : oAt ow q = none := by
    cases z : oAt ow q with
    | none => rfl
    | some _ => exact absurd (hin q (by omega) (by rw [z]; exact fun e => nomatch e)) hno
  obtain ⟨k, e1, e2, e3⟩ := seat M ow h (show q ≤ m by omega) hfree
  have hm : way m h k ≤ m := way_in h k
  have hs : way m h k < ow.size := by rw [W.sz]; omega
  have here := oAt_set_self (owner := ow) (some dn.length) hs
  have there : ∀ i, i ≠ way m h k → oAt (ow.setIfInBounds (way m h k) (some dn.length)) i = oAt ow i := fun i hi => oAt_set_ne _ hi
  have stay : ∀ i, oAt ow i ≠ none → oAt (ow.setIfInBounds (way m h k) (some dn.length)) i ≠ none := fun i hi => by
    rw [there i fun z => hi (z ▸ e2)]
    exact hi
  refine ⟨way m h k, e1, by rw [Array.size_setIfInBounds]; exact W.sz, fun j k' hj e => ?_, fun k' hk' => ?_, way m h k :: js, by simp [hjs], fun j hj e => ?_⟩
  · by_cases c : j = way m h k
    · subst c
      rw [here] at e
      cases e
      exact ⟨h, k, by rw [List.getElem?_append_right (Nat.le_refl _), Nat.sub_self]; rfl, rfl, fun b hb => stay _ (e3 b hb)⟩
    · rw [there j c] at e
      obtain ⟨g, a, a1, a2, a3⟩ := W.who j k' hj e
      exact ⟨g, a, by rw [List.getElem?_append_left (List.getElem?_eq_some_iff.mp a1).1]; exact a1, a2, fun b hb => stay _ (a3 b hb)⟩
  · rw [List.length_append, List.length_singleton] at hk'
    rcases Nat.lt_succ_iff_lt_or_eq.mp hk' with y | y
    · obtain ⟨j, hj, e⟩ := W.all k' y
      exact ⟨j, hj, by rw [there j fun z => by rw [z, e2] at e; cases e]; exact e⟩
    · subst y; exact ⟨_, hm, here⟩
  · by_cases c : j = way m h k
    · rw [c]; exact List.mem_cons_self
    · rw [there j c] at e
      exact List.mem_cons_of_mem _ (hin j hj e)
theorem Sit.more (M : Msk m) : ∀ (rs dn : List Int) (ow : Array (Option Nat)), Sit m dn ow → dn.length + rs.length ≤ m →
    ∃ ow', rs.foldl (stepF m) (some (ow, dn.length)) = some (ow', (dn ++ rs).length) ∧ Sit m (dn ++ rs) ow'
  | [], dn, ow, W, _ => by rw [List.append_nil]; exact ⟨ow, rfl, W⟩
  | h :: rs, dn, ow, W, z => by
    have z2 : dn.length + (rs.length + 1) ≤ m := z
    obtain ⟨j, e, W1⟩ := W.next M (by omega) h
    obtain ⟨ow', f, W2⟩ := Sit.more M rs (dn ++ [h]) _ W1 (by rw [List.length_append, List.length_singleton]; omega)
    refine ⟨ow', ?_, by rw [List.append_cons dn h rs]; exact W2⟩
    rw [List.foldl_cons, stepF_some e, List.append_cons dn h rs, ← f, List.length_append, List.length_singleton]
theorem laid (M : Msk m) {hs : Array Int} (hn : hs.size ≤ m) : ∃ ow, SetTable.layClean m hs = some ow ∧ Sit m hs.toList ow := by
  have W0 : Sit m [] (Array.replicate (m + 1) none) := ⟨by simp, (fun j k hj e => by rw [oAt_init hj] at e; exact nomatch e), fun k hk => absurd hk (Nat.not_lt_zero _), [], rfl, fun j hj e => absurd (oAt_init hj) e⟩
  obtain ⟨ow, f, W⟩ := Sit.more M hs.toList [] _ W0 (by rw [Array.length_toList]; show 0 + hs.size ≤ m; omega)
  refine ⟨ow, ?_, by simpa using W⟩
  have f : hs.toList.foldl (stepF m) (some (Array.replicate (m + 1) none, 0)) = some (ow, ([] ++ hs.toList).length) := f
  rw [layClean_eq, f]
  rfl
end
theorem relaid_tb (t : SetTable) {hs : Array Int} {wanted M : Nat} (hw : SetTable.sizeAbove wanted - 1 = M) (hM : Msk M) (hn : hs.size ≤ M) :
    ∃ t' ord, t.relaid hs wanted = some (t', ord) ∧ ord.toList.Perm (List.range hs.size) ∧ Tb t' (ord.toList.map fun i => hs.getD i 0) ∧ t'.mask = M ∧ t'.led = t.led ∧ t'.plain = t.plain := by
  obtain ⟨ow, e, W⟩ := laid hM hn
  have live : ∀ {j k : Nat}, (j, k) ∈ liveOf M ow ↔ j ≤ M ∧ oAt ow j = some k := mem_live W.sz
  have hr := ris_live (fun j => ow.getD j none) (List.range (M + 1)) (by unfold Ris; exact List.pairwise_lt_range)
  have asc : Ris ((liveOf M ow).map (·.1)) := hr.1
  have low : ∀ j ∈ (liveOf M ow).map (·.1), j < M + 1 := fun j hj => List.mem_range.mp (hr.2 j hj)
  have hlen : (liveOf M ow).length = hs.size := by
    obtain ⟨js, l1, l2⟩ := W.few
    have up := nat_nodup_len _ js (List.Pairwise.imp (fun h => Nat.ne_of_lt h) asc) fun j hj => by
      obtain ⟨⟨j', k⟩, hz, rfl⟩ := List.mem_map.mp hj
      obtain ⟨b1, b2⟩ := live.mp hz
      exact l2 j' b1 (by rw [b2]; exact fun z => nomatch z)
    have down := nat_nodup_len (List.range hs.size) ((liveOf M ow).map (·.2)) List.nodup_range fun k hk => by
      obtain ⟨j, b1, b2⟩ := W.all k (by rw [Array.length_toList]; exact List.mem_range.mp hk)
      exact List.mem_map.mpr ⟨(j, k), live.mpr ⟨b1, b2⟩, rfl⟩
    have l1 : js.length = hs.size := l1.trans (Array.length_toList)
    rw [List.length_map, l1] at up
    rw [List.length_range, List.length_map] at down
    omega
  refine ⟨tabOf t M ow, ((liveOf M ow).map (·.2)).toArray, by rw [relaid_eq, hw, e]; rfl, ?_, ⟨asc, rfl, ?_, hM, fun j hj => ?_, fun i h hi => ?_⟩, rfl, rfl, rfl⟩
  · refine perm_range hs.size _ (by rw [List.toList_toArray, List.length_map, hlen]) fun k hk => ?_
    obtain ⟨j, b1, b2⟩ := W.all k (by rw [Array.length_toList]; exact hk)
    exact List.mem_map.mpr ⟨(j, k), live.mpr ⟨b1, b2⟩, rfl⟩
  · show ((liveOf M ow).map (·.1)).length = _
    simp
  · have := low j hj
    show j ≤ M
    omega
  · have hi2 : (((liveOf M ow).map (·.2)).map fun i => hs.getD i 0)[i]? = some h := hi
    rw [List.getElem?_map, List.getElem?_map] at hi2
    show ∃ k : Nat, ((liveOf M ow).map (·.1))[i]? = some (way M h k) ∧ ∀ c, c < k → way M h c ∈ (liveOf M ow).map (·.1)
    rw [List.getElem?_map]
    cases hz : (liveOf M ow)[i]? with
    | none => rw [hz] at hi2; cases hi2
    | some z =>
      obtain ⟨j, k⟩ := z
      rw [hz] at hi2
      obtain ⟨b1, b2⟩ := live.mp (List.mem_of_getElem? hz)
      obtain ⟨g, c, a1, a2, a3⟩ := W.who j k b1 b2
      have eg : g = h := by
        have e1 : hs.getD k 0 = h := Option.some.inj hi2
        rw [Array.getD_eq_getD_getElem?, ← Array.getElem?_toList, a1] at e1
        exact e1
      subst eg
      refine ⟨c, congrArg some a2.symm, fun b hb => ?_⟩
      cases y : oAt ow (way M g b) with
      | none => exact absurd y (a3 b hb)
      | some k2 => exact List.mem_map.mpr ⟨(way M g b, k2), live.mpr ⟨way_in g b, y⟩, rfl⟩
theorem grow5 : SetTable.sizeAbove (SetTable.grown 5) - 1 = 31 := by decide +kernel
theorem grow19 : SetTable.sizeAbove (SetTable.grown 19) - 1 = 127 := by decide +kernel
theorem grow77 : SetTable.sizeAbove (SetTable.grown 77) - 1 = 511 := by decide +kernel
end K76
/-! text S3 -/
set_option Elab.async false
set_option linter.all false
set_option maxRecDepth 100000
set_option maxHeartbeats 4000000
namespace K76
open PySem PySem.Spec PyProof.Rows L2
/-! ### pairs as keys of a set -/
abbrev PK := Option Str × Int
def kl (k : PK) : List Leaf := [lf k.1, .num k.2]
theorem kl_inj {a b : PK} (h : kl a = kl b) : a = b := by
  unfold kl at h
  injection h with h1 h2
  injection h2 with h2 _
  injection h2 with h2
  exact Prod.ext (lf_inj h1) h2
def ph (P : Program) (w : World) (k : PK) : Int := tupleKeyHash (leafKind P w) (kl k)
abbrev Bears (P : Program) (w : World) (h : Heap) (k : PK) (a : Addr) : Prop := IsTupleKey (leafKind P w) h (kl k) a
/-- None, a truth value, an int or a text -/
inductive Plain : Value → Prop where
  | non : Plain .none
  | tr (b : Bool) : Plain (.bool b)
  | num (i : Int) (t : Tok) : Plain (.int i t)
  | txt (z : Str) (t : Tok) : Plain (.str z t)
theorem leaf_plain : ∀ {k : Leaf} {v : Value}, Leaf.isOf k v = true → Plain v
  | .none, v, e => by cases v <;> first | exact .non | exact absurd e Bool.false_ne_true
  | .num _, v, e => by cases v <;> first | exact .num _ _ | exact .tr _ | exact absurd e Bool.false_ne_true
  | .text z, v, e => by
    obtain ⟨t, rfl⟩ := Value.isStrOf_shape (show Value.isStrOf z v = true from e)
    exact .txt z t
theorem items_plain {P : Program} {w : World} {ks : List Leaf} {vs : List Value} (h : ItemsAre (leafKind P w) ks vs) : ∀ v ∈ vs, Plain v := by
  induction h with
  | nil => intro v hv; cases hv
  | cons h1 _ ih =>
    intro v hv
    rcases List.mem_cons.mp hv with e | hv
    · rw [e]; exact leaf_plain h1
    · exact ih v hv
section
variable {P : Program} {w : World} {A : Around} {E : Value → Shared → Prop} {s : Shared}
theorem plain_class {v : Value} (h : Plain v) (n : Nat) : ofAClassStatement n v = pure false := by
  cases h <;> cases n <;> rfl
theorem plain_hash {v : Value} (h : Plain v) (n : Nat) : ∃ b, hashByValue n v = pure b := by
  cases h with
  | non => exact ⟨true, by cases n <;> rfl⟩
  | tr _ => exact ⟨true, by cases n <;> rfl⟩
  | num _ _ => exact ⟨true, by cases n <;> rfl⟩
  | txt _ _ => exact ⟨false, by cases n <;> rfl⟩
/-- the items of a pair's tuple bear no class statement -/
theorem pair_class {k : PK} {b : Addr} {Q : Bool → Shared → Prop} (hb : Bears P w s.heap k b) (q : Q false s) : wpAny (model P w) A (ofAClassStatement 8 (.ref b)) Q E s := by
  have ty := hb.typeIs
  obtain ⟨o, its, n, ho, _, hd, hi⟩ := hb
  have pl := items_plain hi
  unfold ofAClassStatement
  refine wpAny_bind (wpAny_typeOf ty ?_)
  dsimp only
  simp only [show (("tuple" : String) == "tuple") = true by decide, if_true, Bool.not_true, Bool.false_eq_true, if_false]
  try refine wpAny_bind (wpAny_pure ?_)
  try simp only [Bool.not_true, Bool.false_eq_true, if_false]
  refine wpAny_bind (wpAny_seqItems ho hd ?_)
  dsimp only
  refine wpAny_bind ?_
  show wpAny _ _ (forIn its _ _) _ _ s
  rw [← Array.forIn_toList]
  refine wpAny_forIn_list _ (fun r z s' => z.1 = none ∧ s' = s ∧ ∀ v ∈ r, Plain v) _ ?_ ?_ _ _ ⟨rfl, rfl, pl⟩
  · rintro v r z s' ⟨hz, rfl, hr⟩
    rw [plain_class (hr v List.mem_cons_self)]
    refine wpAny_bind (wpAny_pure ?_)
    simp only [Bool.false_eq_true, if_false]
    exact wpAny_pure ⟨rfl, rfl, fun u hu => hr u (List.mem_cons_of_mem _ hu)⟩
  · rintro ⟨z1, z2⟩ s' ⟨hz, rfl, _⟩
    cases hz
    exact wpAny_pure q
/-- whether its hash is by value: either way -/
theorem pair_hash {k : PK} {b : Addr} {Q : Bool → Shared → Prop} (hb : Bears P w s.heap k b) (q : ∀ z, Q z s) : wpAny (model P w) A (hashByValue 8 (.ref b)) Q E s := by
  have ty := hb.typeIs
  obtain ⟨o, its, n, ho, _, hd, hi⟩ := hb
  have pl := items_plain hi
  unfold hashByValue
  refine wpAny_bind (wpAny_specialOf ty F.slot_tuple_hash.lookup ?_)
  show wpAny _ _ (seqItems? (.ref b) >>= _) _ _ s
  refine wpAny_bind (wpAny_seqItems ho hd ?_)
  refine wpAny_bind ?_
  show wpAny _ _ (forIn its _ _) _ _ s
  rw [← Array.forIn_toList]
  refine wpAny_forIn_list _ (fun r z s' => s' = s ∧ ∀ v ∈ r, Plain v) _ ?_ ?_ _ _ ⟨rfl, pl⟩
  · rintro v r z s' ⟨rfl, hr⟩
    obtain ⟨b, e⟩ := plain_hash (hr v List.mem_cons_self) 7
    rw [e]
    refine wpAny_bind (wpAny_pure ?_)
    cases b
    · simp only [Bool.not_false, if_true]
      exact wpAny_pure (wpAny_pure (q _))
    · simp only [Bool.not_true, Bool.false_eq_true, if_false]
      exact wpAny_pure ⟨rfl, fun u hu => hr u (List.mem_cons_of_mem _ hu)⟩
  · rintro ⟨z1, z2⟩ s' ⟨rfl, _⟩
    cases z1 with
    | none => exact wpAny_pure (q _)
    | some z => exact wpAny_pure (q _)
end
end K76
/-! text S4a -/
set_option Elab.async false
set_option linter.all false
set_option maxRecDepth 100000
set_option maxHeartbeats 4000000
namespace K76
open PySem PySem.Spec PyProof.Rows L2
section
variable {P : Program} {w : World} {A : Around} {E : Value → Shared → Prop} {s : Shared}
/-- looking for a pair among pairs shows nothing of the table -/
theorem pair_unseen {k : PK} {b : Addr} {Q : Bool → Shared → Prop} (hb : Bears P w s.heap k b) {us : List Value} (hus : ∀ u ∈ us, ∃ k' c, u = Value.ref c ∧ Bears P w s.heap k' c) (q : Q false s) :
    wpAny (model P w) A (searchCouldBeSeen (.ref b) us) Q E s := by
  unfold searchCouldBeSeen
  refine wpAny_bind (wpAny_forIn_list _ (fun r z s' => z.1 = none ∧ s' = s ∧ ∀ u ∈ r, ∃ k' c, u = Value.ref c ∧ Bears P w s.heap k' c) _ (fun v r z s' ⟨hz, es, hr⟩ => ?_) (fun z s' ⟨hz, es, _⟩ => ?_) _ _ ⟨rfl, rfl, hus⟩)
  · subst es
    obtain ⟨k', c, rfl, hc⟩ := hr v List.mem_cons_self
    have tl : ∀ u ∈ r, ∃ k' c, u = Value.ref c ∧ Bears P w s'.heap k' c := fun u hu => hr u (List.mem_cons_of_mem _ hu)
    dsimp only
    by_cases same : (b == c || (carriedByValue (.ref b) && carriedByValue (.ref c))) = true
    · exact wp_if_pos same (wpAny_pure ⟨rfl, rfl, tl⟩)
    · refine wp_if_neg same (wpAny_bind (wpAny_eqIsQuiet_tuple hb ?_))
      simp only [Bool.not_true, Bool.false_eq_true, if_false]
      refine wpAny_bind (wpAny_eqIsQuiet_tuple hc ?_)
      simp only [Bool.not_true, Bool.false_eq_true, if_false]
      refine wpAny_bind (pair_class hb ?_)
      simp only [Bool.false_eq_true, if_false]
      refine wpAny_bind (pair_class hc ?_)
      simp only [Bool.false_eq_true, if_false]
      exact wpAny_pure ⟨rfl, rfl, tl⟩
  · subst es
    obtain ⟨z1, z2⟩ := z
    cases hz
    exact wpAny_pure q
end
/-! ### a set of pairs in the heap -/
structure Sp2 (P : Program) (w : World) (h : Heap) (a : Addr) (L : List (Addr × PK)) (es : Array (Int × Value)) (ep : Nat) (t : SetTable) : Prop where
  ob : ∃ o, h.get? a = some o ∧ o.ExactSet ∧ o.data = .set es ep t
  ents : es.toList = L.map fun z => (ph P w z.2, Value.ref z.1)
  tab : Tb t (L.map fun z => ph P w z.2)
  sizes : t.mask = 7 ∨ t.mask = 31 ∨ t.mask = 127 ∨ t.mask = 511
  nd : (L.map (·.2)).Nodup
  tups : ∀ z ∈ L, Bears P w h z.2 z.1
  led : w.params.followText "set-order" = true ∨ t.led = true
  room : L.length * 5 < t.mask * 3
  few : L.length ≤ 300
section
variable {P : Program} {w : World} {A : Around} {E : Value → Shared → Prop} {s : Shared} {a : Addr} {L : List (Addr × PK)} {es : Array (Int × Value)} {ep : Nat} {t : SetTable}
theorem ents_size (h : es.toList = L.map fun z => (ph P w z.2, Value.ref z.1)) : es.size = L.length := by
  rw [← Array.length_toList, h, List.length_map]
theorem ents_get (h : es.toList = L.map fun z => (ph P w z.2, Value.ref z.1)) {i : Nat} {z : Addr × PK} (hz : L[i]? = some z) : es[i]? = some (ph P w z.2, Value.ref z.1) := by
  rw [← Array.getElem?_toList, h, List.getElem?_map, hz]
  rfl
theorem tb_fits {hs : List Int} (T : Tb t hs) (hl : hs.length ≤ t.mask) {n : Nat} (hn : n = hs.length) : t.fits n = true := by
  have h1 : t.place.size = hs.length := by rw [← Array.length_toList]; exact T.len
  unfold SetTable.fits SetTable.fill
  rw [T.dm, h1, hn]
  simp only [beq_self_eq_true, Bool.true_and, decide_eq_true_eq]
  show hs.length + 0 ≤ t.mask
  omega
theorem Sp2.fit (R : Sp2 P w s.heap a L es ep t) : t.fits es.size = true :=
  tb_fits R.tab (by rw [List.length_map]; have := R.room; omega) (by rw [ents_size R.ents, List.length_map])
theorem Sp2.open_ (R : Sp2 P w s.heap a L es ep t) : ¬ t.gaveWay = true := by
  unfold SetTable.gaveWay
  rw [R.tab.msk.odd]
  decide
/-- the c-th state of the road of hash h -/
abbrev st (m : Nat) (h : Int) (c : Nat) : SetTable.Probe := nth m (runAt m (SetTable.bits h % (m + 1)) (SetTable.bits h)) c
theorem st_far (m : Nat) (h : Int) (c b : Nat) : nth m (st m h c) b = st m h (c + b) := (nth_add m c _ b).symm
theorem st_clean (m : Nat) (h : Int) : ∀ c, (st m h c).dummy = none
  | 0 => rfl
  | c + 1 => by
    unfold st
    rw [nth_succ]
    have ih := st_clean m h c
    unfold st at ih
    unfold adv
    split <;> exact ih
end
end K76
/-! text S4b -/
set_option Elab.async false
set_option linter.all false
set_option maxRecDepth 100000
set_option maxHeartbeats 400000
namespace K76
open PySem PySem.Spec PyProof.Rows L2
section
variable {P : Program} {w : World} {A : Around} {E : Value → Shared → Prop} {s : Shared} {a : Addr} {L : List (Addr × PK)} {es : Array (Int × Value)} {ep : Nat} {t : SetTable}
/-- THE SEARCH from the c-th step on: g is the gap, an equal pair isn't behind -/
theorem look (R : Sp2 P w s.heap a L es ep t) {x : Addr} {k : PK} (hx : Bears P w s.heap k x) (hu : A.units < cLine) {g : Nat} (hg : g < 10 * SetTable.turns t.mask) (hgap : way t.mask (ph P w k) g ∉ t.place.toList)
    (hroad : ∀ c, c < g → way t.mask (ph P w k) c ∈ t.place.toList) {Q : SetFound → Shared → Prop} (yes : k ∈ L.map (·.2) → Q (.there none) s) (no : k ∉ L.map (·.2) → Q (.free (way t.mask (ph P w k) g) false) s) :
    ∀ (n c : Nat) (z : Option SetTable.Probe), z.getD (t.probeStart (ph P w k)) = st t.mask (ph P w k) c → c ≤ g → g - c < n →
      (∀ (i : Nat) (y : Addr × PK), L[i]? = some y → y.2 = k → ∃ b, c ≤ b ∧ b < g ∧ t.place.toList[i]? = some (way t.mask (ph P w k) b)) →
      wpAny (model P w) A (setSearchFrom a (.ref x) (ph P w k) true n z) Q E s
  | 0, c, z, _, _, hn, _ => absurd hn (Nat.not_lt_zero _)
  | n + 1, c, z, hz, hc, hn, hk => by
    obtain ⟨o, ho, hex, hd⟩ := R.ob
    have hent : ∀ (i : Nat) (y : Addr × PK), L[i]? = some y → (fun i => (es[i]?.map (·.1)).getD 0) i = ph P w y.2 := fun i y hy => by
      show (es[i]?.map (·.1)).getD 0 = _
      rw [ents_get R.ents hy, Option.map_some, Option.getD_some]
    rw [setSearchFrom_succ]
    refine wpAny_bind (wpAny_setState_of ho hd R.fit ?_)
    dsimp only
    refine wp_if_neg R.open_ ?_
    try refine wpAny_bind (wpAny_pure ?_)
    have ask := go_spec t R.tab.asc R.tab.dm (fun i => (es[i]?.map (·.1)).getD 0) (ph P w k) (10 * SetTable.turns t.mask) (g - c) (st t.mask (ph P w k) c) (st_clean _ _ _) (by omega)
      (fun b hb => by have z := congrArg SetTable.Probe.j (st_far t.mask (ph P w k) c b); rw [z]; exact hroad (c + b) (by omega)) (by have z := congrArg SetTable.Probe.j (st_far t.mask (ph P w k) c (g - c)); rw [z, Nat.add_sub_cancel' hc]; exact hgap)
    have start : ∀ r, SetTable.probe.go t (fun i => (es[i]?.map (·.1)).getD 0) (ph P w k) (10 * SetTable.turns t.mask) (st t.mask (ph P w k) c) = some r → t.probe (fun i => (es[i]?.map (·.1)).getD 0) (ph P w k) (z.getD (t.probeStart (ph P w k))) = some r := fun r h => by rw [hz]; exact h
    have e1 : ∀ q, (nth t.mask (st t.mask (ph P w k) c) q).j = way t.mask (ph P w k) (c + q) := fun q => congrArg SetTable.Probe.j (st_far t.mask (ph P w k) c q)
    rcases ask with ⟨b, i, hb, hi, hh, hfirst, hgo⟩ | ⟨hnone, hgo⟩
    · rw [e1 b] at hi hgo
      rw [st_far t.mask (ph P w k) c (b + 1)] at hgo
      rw [start _ hgo]
      dsimp only
      have hil : i < L.length := by
        have h1 := (List.getElem?_eq_some_iff.mp hi).1
        rw [R.tab.len, List.length_map] at h1
        exact h1
      obtain ⟨y, hy⟩ : ∃ y, L[i]? = some y := ⟨_, List.getElem?_eq_getElem hil⟩
      have hym := List.mem_of_getElem? hy
      have onward : wpAny (model P w) A (searchRest a (.ref x) (ph P w k) true n es t (way t.mask (ph P w k) (c + b)) i (st t.mask (ph P w k) (c + (b + 1)))) Q E s := by
        unfold searchRest
        rw [ents_get R.ents hy]
        dsimp only
        refine wpAny_bind (wpAny_holding (wpAny_eqBool_tuple hu (R.tups y hym) hx ?_))
        refine wpAny_bind (wpAny_setState_of ho hd R.fit ?_)
        dsimp only
        by_cases eq : y.2 = k
        · exact wp_if_pos (by rw [eq]; simp) (wpAny_pure (yes (List.mem_map.mpr ⟨y, hym, eq⟩)))
        · have neq : decide (kl y.2 = kl k) = false := decide_eq_false fun e => eq (kl_inj e)
          refine wp_if_neg (by rw [neq]; decide) ?_
          try refine wpAny_bind (wpAny_pure ?_)
          rw [sameMem]
          dsimp only
          have live := slot_live R.tab.asc hi
          have live : t.slot (way t.mask (ph P w k) (c + b)) = .live i := live
          simp only [if_true, live, ents_get R.ents hy]
          refine wpAny_bind (wpAny_isSame_ref_self (wpAny_bind (wpAny_pure ?_)))
          simp only [if_true]
          refine wp_if_neg (by rw [neq]; decide) ?_
          refine look R hx hu hg hgap hroad yes no n (c + (b + 1)) _ rfl (by omega) (by omega) fun i' y' hy' ek => ?_
          obtain ⟨q, q1, q2, q3⟩ := hk i' y' hy' ek
          refine ⟨q, ?_, q2, q3⟩
          rcases Nat.lt_trichotomy q (c + b) with lt | e | gt
          · have hq : c + (q - c) = q := by omega
            exact absurd ((hent i' y' hy').trans (by rw [ek])) (hfirst (q - c) i' (by omega) (by rw [e1, hq]; exact q3))
          · subst e
            have l2 := slot_live R.tab.asc q3
            rw [live] at l2
            injection l2 with l2
            subst l2
            rw [hy] at hy'
            cases hy'
            exact absurd ek eq
          · omega
      by_cases led : t.led = true
      · refine wp_if_neg (by rw [led]; decide) ?_
        try refine wpAny_bind (wpAny_pure ?_)
        exact onward
      · refine wp_if_pos (by simpa using led) (wpAny_bind (pair_unseen hx (fun u hu2 => ?_) ?_))
        · obtain ⟨e, he, rfl⟩ := List.mem_map.mp hu2
          have he2 : e ∈ es.toList := by
            have : e ∈ es ∧ e.1 = ph P w k := by simpa using he
            simpa using this.1
          rw [R.ents] at he2
          obtain ⟨y2, hy2, rfl⟩ := List.mem_map.mp he2
          exact ⟨y2.2, y2.1, rfl, R.tups y2 hy2⟩
        · refine wp_if_neg (by decide) ?_
          try refine wpAny_bind (wpAny_pure ?_)
          exact onward
    · rw [e1, Nat.add_sub_cancel' hc] at hgo
      rw [start _ hgo]
      dsimp only
      refine wpAny_pure (no fun hm => ?_)
      obtain ⟨y, hy, ek⟩ := List.mem_map.mp hm
      obtain ⟨i, hi⟩ := List.mem_iff_getElem?.mp hy
      obtain ⟨q, q1, q2, q3⟩ := hk i y hi ek
      have hq : c + (q - c) = q := by omega
      exact hnone (q - c) i (by omega) (by rw [e1, hq]; exact q3) ((hent i y hi).trans (by rw [ek]))
/-- the whole search -/
theorem find (R : Sp2 P w s.heap a L es ep t) {x : Addr} {k : PK} (hx : Bears P w s.heap k x) (hu : A.units < cLine) {Q : SetFound → Shared → Prop} (yes : k ∈ L.map (·.2) → Q (.there none) s)
    (no : ∀ g, k ∉ L.map (·.2) → way t.mask (ph P w k) g ∉ t.place.toList → (∀ c, c < g → way t.mask (ph P w k) c ∈ t.place.toList) → Q (.free (way t.mask (ph P w k) g) false) s) :
    wpAny (model P w) A (setSearch a (.ref x) (ph P w k) true) Q E s := by
  have hroom := R.room
  obtain ⟨g, h1, h2, h3⟩ := R.tab.gap (by rw [List.length_map]; omega) (ph P w k)
  have hbig : 10 * SetTable.turns t.mask ≤ 90000 := by
    unfold SetTable.turns
    rcases R.sizes with e | e | e | e <;> rw [e] <;> decide
  unfold setSearch
  refine look R hx hu h1 h2 h3 yes (fun n => no g n h2 h3) 100000 0 none rfl (Nat.zero_le _) (by omega) fun i y hy ek => ?_
  obtain ⟨c, hc, e⟩ := R.tab.ahead h2 (i := i) (by rw [List.getElem?_map, hy, ← ek]; rfl)
  exact ⟨c, Nat.zero_le _, hc, e⟩
end
end K76
/-! text S5 -/
set_option Elab.async false
set_option linter.all false
set_option maxRecDepth 100000
set_option maxHeartbeats 1000000
namespace K76
open PySem PySem.Spec PyProof.Rows L2
/-! ### the table laid anew, with what is in it -/
section
variable {P : Program} {w : World} {A : Around} {E : Value → Shared → Prop} {s : Shared} {a : Addr} {L : List (Addr × PK)} {es : Array (Int × Value)} {ep : Nat} {t : SetTable}
theorem Bears.but {h h' : Heap} {k : PK} {a b : Addr} {o : Obj} (hb : Bears P w h k b) (ho : h.get? a = some o) (hd : o.data = .set es ep t) (sb : Heap.SameBut a h h') : Bears P w h' k b := by
  obtain ⟨o2, its, n, ho2, hc, hd2, hi⟩ := hb
  have ne : b ≠ a := fun z => by
    subst z
    rw [ho] at ho2
    cases ho2
    rw [hd] at hd2
    cases hd2
  exact ⟨o2, its, n, (sb.2 b ne).trans ho2, hc, hd2, hi⟩
theorem insert_perm {α : Type} (l : List α) (p : Nat) (x : α) : (l.take p ++ x :: l.drop p).Perm (x :: l) := by
  have h : (l.take p ++ x :: l.drop p).Perm (x :: (l.take p ++ l.drop p)) := List.perm_middle
  rwa [List.take_append_drop] at h
/-- the entries in the order ord -/
theorem shuffled (he : es.toList = L.map fun z => (ph P w z.2, Value.ref z.1)) {ord : Array Nat} (hp : ord.toList.Perm (List.range L.length)) :
    ∃ L2 : List (Addr × PK), (ord.filterMap (es[·]?)).toList = (L2.map fun z => (ph P w z.2, Value.ref z.1)) ∧ L2.Perm L ∧ (L2.map fun z => ph P w z.2) = ord.toList.map fun i => (es.map (·.1)).getD i 0 := by
  have hlt : ∀ i ∈ ord.toList, i < L.length := fun i hi => List.mem_range.mp (hp.subset hi)
  have get : ∀ {i : Nat} (hi : i < L.length), L[i]? = some L[i] := fun hi => List.getElem?_eq_getElem hi
  have all : ∀ l : List Nat, (∀ i ∈ l, i < L.length) → ∃ L2 : List (Addr × PK), l.filterMap (fun i => L[i]?) = L2 ∧ l.filterMap (fun i => es[i]?) = (L2.map fun z => (ph P w z.2, Value.ref z.1)) ∧ (L2.map fun z => ph P w z.2) = l.map fun i => (es.map (·.1)).getD i 0 := by
    intro l
    induction l with
    | nil => exact fun _ => ⟨[], rfl, rfl, rfl⟩
    | cons i l ih =>
      intro hl
      have hi := hl i List.mem_cons_self
      obtain ⟨L2, a1, a2, a3⟩ := ih fun j hj => hl j (List.mem_cons_of_mem _ hj)
      have hes := ents_get he (get hi)
      refine ⟨L[i] :: L2, ?_, ?_, ?_⟩
      · rw [List.filterMap_cons_some (get hi), a1]
      · rw [List.filterMap_cons_some hes, a2, List.map_cons]
      · rw [List.map_cons, List.map_cons, a3]
        congr 1
        rw [Array.getD_eq_getD_getElem?, Array.getElem?_map, hes, Option.map_some, Option.getD_some]
  obtain ⟨L2, a1, a2, a3⟩ := all ord.toList fun i hi => List.mem_range.mp (hp.subset hi)
  refine ⟨L2, ?_, ?_, a3⟩
  · rw [Array.toList_filterMap]; exact a2
  · have h2 : (List.range L.length).filterMap (fun i => L[i]?) = L := by
      have step : ∀ n, n ≤ L.length → (List.range n).filterMap (fun i => L[i]?) = L.take n := fun n => by
        induction n with
        | zero => exact fun _ => rfl
        | succ n ih =>
          intro hn
          rw [List.range_succ, List.filterMap_append, ih (by omega), List.filterMap_cons_some (get (show n < L.length by omega)), List.filterMap_nil, List.take_add_one, get (show n < L.length by omega)]
          rfl
      rw [step _ (Nat.le_refl _), List.take_length]
    have h3 := hp.filterMap fun i => L[i]?
    rw [a1, h2] at h3
    exact h3
end
end K76
/-! text S6 -/
set_option Elab.async false
set_option linter.all false
set_option maxRecDepth 100000
set_option maxHeartbeats 1000000
namespace K76
open PySem PySem.Spec PyProof.Rows L2
section
variable {P : Program} {w : World} {A : Around} {E : Value → Shared → Prop} {s : Shared} {a : Addr} {L : List (Addr × PK)} {es : Array (Int × Value)} {ep : Nat} {t : SetTable}
/-- setRelay -/
theorem regrown {o : Obj} (ho : s.heap.get? a = some o) (hex : o.ExactSet) (hd : o.data = .set es ep t) (he : es.toList = L.map fun z => (ph P w z.2, Value.ref z.1)) (T : Tb t (L.map fun z => ph P w z.2)) (hl : L.length ≤ t.mask)
    (nd : (L.map (·.2)).Nodup) (tups : ∀ z ∈ L, Bears P w s.heap z.2 z.1) (led : w.params.followText "set-order" = true ∨ t.led = true) (few : L.length ≤ 300) {wanted M : Nat}
    (hw : SetTable.sizeAbove wanted - 1 = M) (hM : Msk M) (hM2 : M = 7 ∨ M = 31 ∨ M = 127 ∨ M = 511) (hn : L.length * 5 < M * 3) {Q : Unit → Shared → Prop}
    (q : ∀ h' L' es' ep' t', Heap.SameBut a s.heap h' → Sp2 P w h' a L' es' ep' t' → L'.Perm L → Q () { s with heap := h' }) : wpAny (model P w) A (setRelay a wanted) Q E s := by
  have hsz := ents_size he
  have fits : t.fits es.size = true := tb_fits T (by rw [List.length_map]; exact hl) (by rw [hsz, List.length_map])
  obtain ⟨t', ord, e, hp, T', em, el, _⟩ := relaid_tb t (hs := es.map (·.1)) (wanted := wanted) hw hM (by rw [Array.size_map, hsz]; omega)
  rw [Array.size_map, hsz] at hp
  obtain ⟨L2, r1, r2, r3⟩ := shuffled he hp
  rw [← r3] at T'
  have hs2 : (ord.filterMap (es[·]?)).size = es.size := by rw [ents_size r1, hsz, r2.length_eq]
  rw [setRelay_eq]
  refine wpAny_bind (wpAny_setState_of ho hd fits ?_)
  dsimp only
  refine wp_if_neg (by rw [line]; rcases hM2 with z | z | z | z <;> omega) ?_
  try refine wpAny_bind (wpAny_pure ?_)
  rw [e]
  dsimp only
  refine wpAny_bind ?_
  refine wp_if_neg (by rw [hs2]; simp) ?_
  try refine wpAny_bind (wpAny_pure ?_)
  refine wpAny_pure ?_
  dsimp only
  refine wpAny_storeSet_of ho hd ?_ (by rw [hs2, hsz, line]; omega)
  have sb : Heap.SameBut a s.heap (s.heap.update a (Obj.putSet (ord.filterMap (es[·]?)) t')) := Heap.SameBut.update ..
  refine q _ L2 (ord.filterMap (es[·]?)) (ep + 1) t' sb ⟨⟨_, store_at ho hd, ⟨hex.1, hex.2.1, hex.2.2⟩, rfl⟩, r1, T', by rw [em]; exact hM2, (r2.map (·.2)).nodup_iff.mpr nd, fun z hz => (tups z (r2.subset hz)).but ho hd sb, by rw [el]; exact led, ?_, by rw [r2.length_eq]; exact few⟩ r2
  rw [r2.length_eq, em]
  exact hn
end
end K76
/-! text S7 -/
set_option Elab.async false
set_option linter.all false
set_option maxRecDepth 100000
set_option maxHeartbeats 1000000
namespace K76
open PySem PySem.Spec PyProof.Rows L2
section
variable {P : Program} {w : World} {A : Around} {E : Value → Shared → Prop} {s : Shared} {a : Addr} {L : List (Addr × PK)} {es : Array (Int × Value)} {ep : Nat} {t : SetTable}
theorem Tb.plainless {hs : List Int} (T : Tb t hs) (b : Bool) : Tb { t with plain := b } hs := ⟨T.asc, T.dm, T.len, T.msk, T.low, T.road⟩
/-- one pair added -/
theorem add1 (R : Sp2 P w s.heap a L es ep t) {x : Addr} {k : PK} (hx : Bears P w s.heap k x) (hu : A.units < cLine) (few : L.length < 250) {Q : Bool → Shared → Prop}
    (q : ∀ b h' L' es' ep' t', Heap.SameBut a s.heap h' → Sp2 P w h' a L' es' ep' t' → (k ∈ L.map (·.2) → L' = L) → (k ∉ L.map (·.2) → L'.Perm ((x, k) :: L)) → Q b { s with heap := h' }) :
    wpAny (model P w) A (setAddHashed a (.ref x) (ph P w k)) Q E s := by
  obtain ⟨o, ho, hex, hd⟩ := R.ob
  have hsz := ents_size R.ents
  have hroom := R.room
  unfold setAddHashed
  refine wpAny_holding ?_
  rw [show (100000 : Nat) = 99999 + 1 from rfl, setAddHashedIn_succ]
  refine wpAny_bind (wpAny_setState_of ho hd R.fit ?_)
  dsimp only
  refine wp_if_neg (by simp [byScan, Value.scannable]) ?_
  try refine wpAny_bind (wpAny_pure ?_)
  refine wpAny_bind (find R hx hu (fun yes => ?_) fun g no hgap hroad => ?_)
  · dsimp only
    exact wpAny_pure (q false s.heap L es ep t (Heap.SameBut.refl a s.heap) R (fun _ => rfl) fun z => absurd yes z)
  dsimp only
  refine wpAny_bind (wpAny_setState_of ho hd R.fit ?_)
  dsimp only
  obtain ⟨e1, e2, T1, e4, e5, _, _, e8⟩ := R.tab.put hgap hroad _ rfl
  generalize hp : SetTable.below t.place (way t.mask (ph P w k) g) = p at e1 e2 T1
  generalize hpt : t.put (way t.mask (ph P w k) g) = pt at e1 T1 e4 e5 e8 ⊢
  obtain ⟨t1, p1⟩ := pt
  dsimp only at e1 T1 e4 e5 e8 ⊢
  subst e1
  have pm := insert_perm L p1 (x, k)
  have hin : (SetTable.insertAt es p1 (ph P w k, Value.ref x)).toList = (L.take p1 ++ (x, k) :: L.drop p1).map fun z => (ph P w z.2, Value.ref z.1) := by
    rw [SetTable.toList_insertAt, R.ents, List.map_append, List.map_cons, List.map_take, List.map_drop]
  have hT1 : Tb t1 ((L.take p1 ++ (x, k) :: L.drop p1).map fun z => ph P w z.2) := by
    rw [List.map_append, List.map_cons, List.map_take, List.map_drop]; exact T1
  have hlen : (L.take p1 ++ (x, k) :: L.drop p1).length = L.length + 1 := pm.length_eq
  have nd1 : ((L.take p1 ++ (x, k) :: L.drop p1).map (·.2)).Nodup := (pm.map (·.2)).nodup_iff.mpr (List.nodup_cons.mpr ⟨no, R.nd⟩)
  have hes := ents_size hin
  rw [hlen] at hes
  -- whatever is known of the hash: the same table but for one mark
  have go : ∀ t2 : SetTable, Tb t2 ((L.take p1 ++ (x, k) :: L.drop p1).map fun z => ph P w z.2) → t2.mask = t.mask → t2.led = t.led → t2.fill = L.length + 1 →
      wpAny (model P w) A (do
        storeSet a (SetTable.insertAt es p1 (ph P w k, Value.ref x)) t2
        if (!false && t2.tooFull) = true then do
          setRelay a (SetTable.grown (es.size + 1))
          pure true
        else pure true) Q E s := by
    intro t2 T2 m2 l2 f2
    generalize SetTable.insertAt es p1 (ph P w k, Value.ref x) = es1 at hin hes ⊢
    generalize L.take p1 ++ (x, k) :: L.drop p1 = L1 at pm hin hlen nd1 T2
    refine wpAny_bind (wpAny_storeSet_of ho hd ?_ (by rw [hes, line]; omega))
    have sb : Heap.SameBut a s.heap (s.heap.update a (Obj.putSet es1 t2)) := Heap.SameBut.update ..
    have ho1 := store_at (es' := es1) (t' := t2) ho hd
    generalize s.heap.update a (Obj.putSet es1 t2) = h1 at sb ho1 ⊢
    have tups1 : ∀ z ∈ L1, Bears P w h1 z.2 z.1 := fun z hz => by
      rcases List.mem_cons.mp (pm.subset hz) with e | hz
      · rw [e]; exact hx.but ho hd sb
      · exact (R.tups z hz).but ho hd sb
    have led1 : w.params.followText "set-order" = true ∨ t2.led = true := by rw [l2]; exact R.led
    have sizes1 : t2.mask = 7 ∨ t2.mask = 31 ∨ t2.mask = 127 ∨ t2.mask = 511 := by rw [m2]; exact R.sizes
    by_cases full : t2.tooFull = true
    · have hf : (L.length + 1) * 5 ≥ t.mask * 3 := by
        have z := full
        unfold SetTable.tooFull at z
        rw [decide_eq_true_eq, f2, m2] at z
        exact z
      have big : ∀ M, SetTable.sizeAbove (SetTable.grown (es.size + 1)) - 1 = M → Msk M → (M = 7 ∨ M = 31 ∨ M = 127 ∨ M = 511) → L1.length * 5 < M * 3 → wpAny (model P w) A (setRelay a (SetTable.grown (es.size + 1))) (fun _ s' => wpAny (model P w) A (pure true) Q E s') E { s with heap := h1 } := fun M a1 a2 a3 a4 =>
        regrown (s := { s with heap := h1 }) ho1 ⟨hex.1, hex.2.1, hex.2.2⟩ rfl hin T2 (by rw [hlen, m2]; omega) nd1 tups1 led1 (by omega) a1 a2 a3 a4 fun h2 L2 es2 ep2 t3 sb2 R2 pm2 => wpAny_pure (q true h2 L2 es2 ep2 t3 (sb.trans sb2) R2 (fun z => absurd z no) fun _ => pm2.trans pm)
      have fin : wpAny (model P w) A (setRelay a (SetTable.grown (es.size + 1))) (fun _ s' => wpAny (model P w) A (pure true) Q E s') E { s with heap := h1 } := by
        rcases R.sizes with e | e | e | e <;> rw [e] at hf hroom
        · have n4 : L.length = 4 := by omega
          exact big 31 (by rw [hsz, n4]; exact grow5) msk31 (.inr (.inl rfl)) (by omega)
        · have n4 : L.length = 18 := by omega
          exact big 127 (by rw [hsz, n4]; exact grow19) msk127 (.inr (.inr (.inl rfl))) (by omega)
        · have n4 : L.length = 76 := by omega
          exact big 511 (by rw [hsz, n4]; exact grow77) msk511 (.inr (.inr (.inr rfl))) (by omega)
        · omega
      refine wp_if_pos (by rw [full]; rfl) (wpAny_bind ?_)
      exact fin
    · have hf : ¬ (L.length + 1) * 5 ≥ t.mask * 3 := fun z => full (by unfold SetTable.tooFull; rw [decide_eq_true_eq, f2, m2]; exact z)
      refine wp_if_neg (by simp [full]) (wpAny_pure ?_)
      exact q true h1 L1 es1 (ep + 1) t2 sb ⟨⟨_, ho1, ⟨hex.1, hex.2.1, hex.2.2⟩, rfl⟩, hin, T2, sizes1, nd1, tups1, led1, by rw [hlen, m2]; omega, by omega⟩ (fun z => absurd z no) fun _ => pm
  rw [List.length_map] at e8
  have both : ∀ z : Bool, wpAny (model P w) A (do
        storeSet a (SetTable.insertAt es p1 (ph P w k, Value.ref x)) (if z = true then t1 else { t1 with plain := false })
        if (!false && (if z = true then t1 else { t1 with plain := false }).tooFull) = true then do
          setRelay a (SetTable.grown (es.size + 1))
          pure true
        else pure true) Q E s := fun z => by
    cases z
    · exact go { t1 with plain := false } (hT1.plainless false) e4 e5 e8
    · exact go t1 hT1 e4 e5 e8
  by_cases pl : t1.plain = true
  · exact wp_if_pos pl (wpAny_bind (pair_hash hx fun z => both z))
  · exact wp_if_neg pl (wpAny_bind (wpAny_pure (both true)))
end
end K76
/-! text S8 -/
set_option Elab.async false
set_option linter.all false
set_option maxRecDepth 100000
set_option maxHeartbeats 3200000
namespace K76
open PySem PySem.Spec PyProof.Rows L2
/-! ### pairs fed into a set -/
/-- what stands in h stands in h' -/
def Ext (h h' : Heap) : Prop := ∀ b o, h.get? b = some o → h'.get? b = some o
theorem Ext.trans {h1 h2 h3 : Heap} (x : Ext h1 h2) (y : Ext h2 h3) : Ext h1 h3 := fun b o e => y b o (x b o e)
theorem Ext.push (h : Heap) (o : Obj) : Ext h (h.push o) := fun b u e => Heap.get?_push_of_some _ e
/-- L is what a set has of the first i of ks -/
structure Has (ks : List (Addr × PK)) (i : Nat) (L : List (Addr × PK)) : Prop where
  from_ : ∀ z ∈ L, z ∈ ks.take i
  every : ∀ z ∈ ks.take i, z.2 ∈ L.map (·.2)
  most : L.length ≤ i
theorem Has.none (ks : List (Addr × PK)) : Has ks 0 [] := ⟨by simp, by simp, Nat.zero_le 0⟩
theorem Has.next {ks L M : List (Addr × PK)} {i : Nat} {z : Addr × PK} (g : Has ks i L) (at_ : ks[i]? = some z) (old : z.2 ∈ L.map (·.2) → M = L) (new : z.2 ∉ L.map (·.2) → M.Perm ((z.1, z.2) :: L)) : Has ks (i + 1) M := by
  have tk : ∀ y, y ∈ ks.take (i + 1) ↔ y ∈ ks.take i ∨ y = z := fun y => by
    rw [take_next at_, List.mem_append, List.mem_singleton]
  by_cases c : z.2 ∈ L.map (·.2)
  · cases old c
    exact ⟨fun y hy => (tk y).mpr (.inl (g.from_ y hy)), fun y hy => ((tk y).mp hy).elim (g.every y) fun e => e ▸ c, Nat.le_succ_of_le g.most⟩
  · have pm := new c
    have key : ∀ x, x ∈ M.map (·.2) ↔ x = z.2 ∨ x ∈ L.map (·.2) := fun x => by
      rw [(pm.map (·.2)).mem_iff, List.map_cons, List.mem_cons]
    refine ⟨fun y hy => (tk y).mpr ?_, fun y hy => (key _).mpr ?_, ?_⟩
    · exact (List.mem_cons.mp (pm.subset hy)).elim .inr fun m => .inl (g.from_ y m)
    · exact ((tk y).mp hy).elim (fun m => .inr (g.every y m)) fun e => .inl (congrArg (·.2) e)
    · rw [pm.length_eq]
      exact Nat.succ_le_succ g.most
section
variable {P : Program} {w : World} {h h' : Heap} {a : Addr} {L : List (Addr × PK)} {es : Array (Int × Value)} {ep : Nat} {t : SetTable}
theorem Bears.ext {k : PK} {b : Addr} (x : Bears P w h k b) (e : Ext h h') : Bears P w h' k b :=
  let ⟨o, its, n, ho, r⟩ := x
  ⟨o, its, n, e b o ho, r⟩
theorem Sp2.carry (R : Sp2 P w h a L es ep t) (ha : ∀ o, h.get? a = some o → h'.get? a = some o) (ht : ∀ z ∈ L, Bears P w h' z.2 z.1) : Sp2 P w h' a L es ep t :=
  { R with ob := let ⟨o, ho, r⟩ := R.ob; ⟨o, ha o ho, r⟩, tups := ht }
/-- an empty set, newly made -/
abbrev bareT (w : World) : SetTable := .fresh 0 0 (!w.params.followText "set-order")
abbrev bareO (w : World) : Obj := { cls := .type "set", dict := none, data := .set #[] 0 (bareT w) }
theorem sp2_bare (ho : h.get? a = some (bareO w)) : Sp2 P w h a [] #[] 0 (bareT w) where
  ob := ⟨_, ho, ⟨rfl, rfl, rfl⟩, rfl⟩
  ents := rfl
  tab := ⟨List.Pairwise.nil, rfl, rfl, msk7, nofun, fun i h hi => (by cases i <;> cases hi)⟩
  sizes := .inl rfl
  nd := List.nodup_nil
  tups := nofun
  led := by
    cases z : w.params.followText "set-order" with
    | true => exact .inl rfl
    | false => exact .inr (congrArg not z)
  room := by show 0 * 5 < 7 * 3; decide
  few := Nat.zero_le _
end
section
variable {P : Program} {w : World} {A : Around} {E : Value → Shared → Prop} {s : Shared}
/-- set.update's loop over a walk that yields ks -/
theorem feed {I S : Addr} {fp : List Addr} {n : Nat} {Y : Nat → Value → Prop} {St : Nat → Heap → Prop} {R : Result → Shared → Prop} {ks : List (Addr × PK)} {h0 : Heap}
    (W : Walks P w A.in1 I fp [I] n Y St) (apart : S ∉ fp) (hn : n = ks.length) (few : ks.length ≤ 250) (vals : ∀ i v, Y i v → ∃ z, ks[i]? = some z ∧ v = .ref z.1)
    (tups : ∀ z ∈ ks, Bears P w h0 z.2 z.1) (noS : h0.get? S = none) (noI : h0.get? I = none) (hu : A.in1.units < cLine)
    (fin : ∀ h tk L es ep t, Sp2 P w h S L es ep t → Has ks n L → Ext h0 h → R (.ok (.ret .none)) { s with heap := h, toks := tk }) :
    ∀ (m i : Nat) (h : Heap) (tk : Nat) (L : List (Addr × PK)) (es : Array (Int × Value)) (ep : Nat) (t : SetTable), i + m = n → St i h → Ext h0 h → Sp2 P w h S L es ep t → Has ks i L →
      codeAny (model P w) A (.builtin "set.update.loop" ⟨[.ref S, .ref I], []⟩) R { s with heap := h, toks := tk } := by
  have SI : S ∉ [I] := fun m => apart (W.sub S m)
  have onI : ∀ {h1 h2 : Heap}, Ext h0 h1 → (∀ b o, b ∉ [I] → h1.get? b = some o → h2.get? b = some o) → Ext h0 h2 := fun {h1 h2} x y b o e => y b o (fun m => by
    rw [List.mem_singleton.mp m, noI] at e
    cases e) (x b o e)
  have carry : ∀ {i : Nat} {h1 h2 : Heap} {L : List (Addr × PK)} {es : Array (Int × Value)} {ep : Nat} {t : SetTable}, Sp2 P w h1 S L es ep t → Has ks i L → Ext h0 h2 → (∀ b o, b ∉ [I] → h1.get? b = some o → h2.get? b = some o) → Sp2 P w h2 S L es ep t := fun R g x y =>
    R.carry (fun o e => y S o SI e) fun z hz => (tups z (List.mem_of_mem_take (g.from_ z hz))).ext x
  intro m
  induction m with
  | zero =>
    intro i h tk L es ep t e st x R g
    cases (show i = n from e)
    refine codeAny_builtin F.entry_set_update_loop ?_
    rw [Around.under_plainId F.plain_set_update_loop _]
    show wpAny _ _ (pyNext (.ref I) >>= _) _ _ _
    refine wpAny_bind (W.done _ _ _ st fun h2 tk2 k => ?_)
    show wpAny _ _ (ret Value.none) _ _ _
    exact wpAny_pure (fin h2 tk2 L es ep t (carry R g (onI x k) k) g (onI x k))
  | succ m ih =>
    intro i h tk L es ep t e st x R g
    refine codeAny_builtin F.entry_set_update_loop ?_
    rw [Around.under_plainId F.plain_set_update_loop _]
    show wpAny _ _ (pyNext (.ref I) >>= _) _ _ _
    refine wpAny_bind (W.item i _ _ _ (by omega) st fun v h2 tk2 y st2 k => ?_)
    obtain ⟨z, hz, rfl⟩ := vals i v y
    have x2 := onI x k
    have R2 := carry R g x2 k
    have b := (tups z (List.mem_of_getElem? hz)).ext x2
    show wpAny _ _ (holding [Value.ref z.1] (setAdd S (.ref z.1)) >>= _) _ _ _
    refine wpAny_bind (wpAny_holding ?_)
    unfold setAdd
    refine wpAny_holding (wpAny_bind (wpAny_pyHash_tuple hu b ?_))
    refine add1 (s := { s with heap := h2, toks := tk2 + (2 + 1) }) (k := z.2) R2 b hu (by have := g.most; have := (List.getElem?_eq_some_iff.mp hz).1; omega) fun _ h3 M es3 ep3 t3 sb R3 c1 c2 => ?_
    have same : ∀ c, c ≠ S → h3.get? c = h2.get? c := sb.2
    refine wpAny_pure ⟨plainId_quiet F.plain_set_update_loop _, ih (i + 1) h3 _ M es3 ep3 t3 (by omega) (W.frame (i + 1) h2 h3 st2 fun c hc o ho => ?_) (fun c o ho => ?_) R3 (g.next hz c1 c2)⟩
    · rw [same c fun z => apart (z ▸ hc)]; exact ho
    · rw [same c fun z => by rw [z, noS] at ho; cases ho]; exact x2 c o ho
end
end K76
/-! text S9 -/
set_option Elab.async false
set_option linter.all false
set_option maxRecDepth 100000
set_option maxHeartbeats 3200000
namespace K76
open PySem PySem.Spec PyProof.Rows L2
section
variable {P : Program} {w : World} {A : Around} {E : Value → Shared → Prop} {s : Shared}
theorem beyond {h : Heap} {b : Addr} (le : h.objs.size ≤ b) : h.get? b = none := by
  cases e : h.get? b with
  | none => rfl
  | some o => exact absurd (Heap.lt_size e) (Nat.not_lt.mpr le)
/-- set.__init__ of a bare set with a list of pairs -/
theorem init_pairs {S l : Addr} {items : Array Value} {ks : List (Addr × PK)} {h0 : Heap} {C : Around} {R : Result → Shared → Prop} (hh : A.handled = none) (bare : s.heap.get? S = some (bareO w)) (hl : s.heap.IsList l items)
    (its : items.toList = ks.map fun z => Value.ref z.1) (tups : ∀ z ∈ ks, Bears P w h0 z.2 z.1) (few : ks.length ≤ 250) (x0 : Ext h0 s.heap) (noS : h0.get? S = none) (hu : A.in1.units < cLine)
    (q : ∀ h tk L es ep t, Sp2 P w h S L es ep t → Has ks ks.length L → Ext h0 h → R (.ok (.ret .none)) { s with heap := h, toks := tk }) :
    wpAny (model P w) A (Builtin.«set.__init__» ⟨[.ref S, .ref l], []⟩) (fun fin s' => match fin with
      | .done f => R (.ok f) s'
      | .again c => c.quiet = true ∧ codeAny (model P w) C c R s') (fun e s' => R (.error e) s') s := by
  have hT : s.TypeIs (.ref S) "set" := ⟨_, bare, rfl⟩
  have isz : items.size = ks.length := by
    rw [← Array.length_toList, its, List.length_map]
  have hl2 := hl
  obtain ⟨lo, gl, lc, ln, ld⟩ := hl2
  obtain ⟨cl, di, da, sl⟩ := lo
  simp only at lc ld
  subst lc
  subst ld
  have nset := F.sub_list_set
  have nfro := F.sub_list_frozenset
  have ndic : (Value.type "list" == Value.type "dict") = false := by decide
  unfold Builtin.«set.__init__» noKeywords Builtin.Frozenset.updateFrom
  generalize hit : pyIter = pit
  wp_walk
  subst hit
  refine wpAny_pyIter_list hl ?_
  refine wpAny_bind (wpAny_runValue ?_)
  have lI : l ≠ s.heap.objs.size := Nat.ne_of_lt (Heap.lt_size gl)
  have SI : S ≠ s.heap.objs.size := Nat.ne_of_lt (Heap.lt_size bare)
  have Sl : S ≠ l := fun z => by
    rw [z, gl] at bare
    exact absurd (Value.type.inj (congrArg Obj.cls (Option.some.inj bare))) (by decide)
  have vals : ∀ (i : Nat) (v : Value), items[i]? = some v → ∃ z, ks[i]? = some z ∧ v = .ref z.1 := fun i v e => by
    rw [← Array.getElem?_toList, its, List.getElem?_map] at e
    obtain ⟨z, e1, e2⟩ := Option.map_eq_some_iff.mp e
    exact ⟨z, e1, e2.symm⟩
  have noI : h0.get? s.heap.objs.size = none := by
    cases e : h0.get? s.heap.objs.size with
    | none => rfl
    | some o => exact absurd (beyond (Nat.le_refl _)) (by rw [x0 _ o e]; exact nofun)
  have fresh : Ext s.heap (s.heap.push { cls := .type "list_iterator", data := .fields #[.ref l, .int 0 0] }) := Ext.push _ _
  have hA : A.in1.handled = none := by simp [hh]
  refine feed (Walks.list hA s.heap.objs.size l lI items) (by simp [SI, Sl]) isz few vals tups noS noI hu (fun h tk L es ep t G g x => ?_)
    items.size 0 _ s.toks [] #[] 0 _ (Nat.zero_add _) ⟨⟨_, Heap.get?_push_size _ rfl, rfl, rfl⟩, hl.push _⟩ (x0.trans fresh) (sp2_bare (fresh _ _ bare)) (Has.none ks)
  refine wpAny_pure ?_
  show wpAny _ _ (ret Value.none) _ _ _
  exact wpAny_pure (q h tk L es ep t G (isz ▸ g) x)
end
end K76
/-! text S10 -/
set_option Elab.async false
set_option linter.all false
set_option maxRecDepth 100000
set_option maxHeartbeats 3200000
namespace K76
open PySem PySem.Spec PyProof.Rows L2
section
variable {P : Program} {w : World} {A : Around} {E : Value → Shared → Prop} {s : Shared}
/-- set(xs), xs a list of pairs -/
theorem call_set_pairs {l : Addr} {items : Array Value} {ks : List (Addr × PK)} {Q : Value → Shared → Prop} (hh : A.handled = none) (hl : s.heap.IsList l items) (its : items.toList = ks.map fun z => Value.ref z.1)
    (tups : ∀ z ∈ ks, Bears P w s.heap z.2 z.1) (few : ks.length ≤ 250) (hu : A.units + 3 < cLine)
    (q : ∀ h tk L es ep t, Sp2 P w h s.heap.objs.size L es ep t → Has ks ks.length L → Ext s.heap h → Q (.ref s.heap.objs.size) { s with heap := h, toks := tk }) :
    wpAny (model P w) A (call (.type "set") [.ref l]) Q E s := by
  have typed := F.called_set.notType
  have creates := F.called_set.canCreate
  have asks := F.typeCall_set_1 (.ref l)
  have makes := F.called_set.made
  have kin := F.called_set.sub
  obtain ⟨c0, cs, order⟩ := F.called_set.mro
  have grown : Ext s.heap (s.heap.push (bareO w)) := Ext.push _ _
  have at_ : (s.heap.push (bareO w)).get? s.heap.objs.size = some (bareO w) := Heap.get?_push_size _ rfl
  have sort_ : Shared.TypeIs { s with heap := s.heap.push (bareO w) } (.ref s.heap.objs.size) "set" := ⟨_, at_, rfl⟩
  refine wpAny_call (codeAny_of_tree ?_)
  show wpAny _ _ (callAny (.type "set") _) _ _ _
  refine wpAny_pure ⟨Code.quiet_builtin _ (by decide +kernel), codeAny_builtin F.entry_type_call ?_⟩
  rw [Around.under_plain (weight_type_call_type "set" [.ref l] []) rfl]
  repeat (any_goals (first | assumption | wp_step))
  refine codeAny_mono (code_set_led1 (.ref l) (E := E) (Q₁ := fun v s1 => v = .ref s.heap.objs.size ∧ s1 = { s with heap := s.heap.push (bareO w) }) ⟨rfl, rfl⟩) fun r s1 made => ?_
  match r, made with
  | .error _, made => exact made
  | .ok (.ret _), ⟨e1, e2⟩ =>
    subst e1 e2
    have finds := F.called_set.init.lookup
    have binds := F.called_set.init.bind (.ref s.heap.objs.size)
    repeat (any_goals (first | assumption | wp_step))
    refine codeAny_mono (codeAny_call_builtin (R := wants (fun r s2 => r = .none ∧ ∃ h tk L es ep t, s2 = { s with heap := h, toks := tk } ∧ Sp2 P w h s.heap.objs.size L es ep t ∧ Has ks ks.length L ∧ Ext s.heap h) E)
      F.called_set.init.plain F.entry_set_init (check_set_init_1 sort_ ?_)) fun r2 s2 ended => ?_
    · exact init_pairs (s := { s with heap := s.heap.push (bareO w) }) (h0 := s.heap) (by simp [hh]) at_ (hl.push _) its tups few grown (beyond (Nat.le_refl _)) hu fun h tk L es ep t R g x => ⟨rfl, h, tk, L, es, ep, t, rfl, R, g, x⟩
    · match r2, ended with
      | .error _, ended => exact ended
      | .ok (.ret _), ⟨e1, h, tk, L, es, ep, t, e2, R, g, x⟩ =>
        subst e1 e2
        repeat (any_goals (first | assumption | wp_step))
        exact q h tk L es ep t R g x
/-- found.add(pair) -/
theorem call_add_pair {a x : Addr} {k : PK} {L : List (Addr × PK)} {es : Array (Int × Value)} {ep : Nat} {t : SetTable} {Q : Value → Shared → Prop} (R : Sp2 P w s.heap a L es ep t) (hx : Bears P w s.heap k x) (hu : A.in1.units < cLine) (few : L.length < 250)
    (q : ∀ h tk M es' ep' t', Heap.SameBut a s.heap h → Sp2 P w h a M es' ep' t' → (k ∈ L.map (·.2) → M = L) → (k ∉ L.map (·.2) → M.Perm ((x, k) :: L)) → Q .none { s with heap := h, toks := tk }) :
    wpAny (model P w) A (call (.builtin "set.add") [.ref a, .ref x]) Q E s := by
  have sort_ : s.TypeIs (.ref a) "set" := let ⟨o, ho, hex, _⟩ := R.ob; ⟨o, ho, hex.1⟩
  refine wpAny_call_entry F.slot_set_add sort_ F.entry_set_add ?_ (F.args_set_add_2 _ _)
  unfold Builtin.«set.add» Builtin.Frozenset.oneOther Builtin.Frozenset.addrOf setAdd
  simp only [List.isEmpty_nil, bind_assoc]
  iterate 2
    refine wpAny_bind (wpAny_pure ?_)
    try dsimp only
  refine wpAny_bind (wpAny_holding (wpAny_bind (wpAny_pyHash_tuple hu hx ?_)))
  refine add1 (s := { s with toks := s.toks + (2 + 1) }) (k := k) R hx hu few fun _ h M es' ep' t' sb R2 c1 c2 => ?_
  show wpAny _ _ (ret Value.none) _ _ _
  exact wpAny_pure ⟨_, rfl, q h _ M es' ep' t' sb R2 c1 c2⟩
end
end K76
/-! text R2 -/
set_option Elab.async false
set_option linter.all false
set_option maxRecDepth 100000
set_option maxHeartbeats 4000000
namespace K76
open PySem PySem.Spec PyProof.Rows L2
/-! ### sets of pairs: None or a text, and an int -/
def keyVs (k : PK) : List V := [pV k.1, .int k.2]
/-- the set at a holds L, whatever its tuples are -/
def ST0 (P : Program) (w : World) (h : Heap) (a : Addr) (L : List (Addr × PK)) : Prop :=
  ∃ es ep t, (∃ o, h.get? a = some o ∧ o.ExactSet ∧ o.data = .set es ep t) ∧ es.toList = (L.map fun z => (ph P w z.2, Value.ref z.1)) ∧ Tb t (L.map fun z => ph P w z.2) ∧ (t.mask = 7 ∨ t.mask = 31 ∨ t.mask = 127 ∨ t.mask = 511) ∧
    (L.map (·.2)).Nodup ∧ (w.params.followText "set-order" = true ∨ t.led = true) ∧ L.length * 5 < t.mask * 3 ∧ L.length ≤ 300
def STO (P : Program) (w : World) (a : Addr) (L : List (Addr × PK)) : HO := .ext fun h => ST0 P w h a L
section
variable {P : Program} {w : World} {h : Heap} {a : Addr} {L : List (Addr × PK)}
theorem Sp2.less {es : Array (Int × Value)} {ep : Nat} {t : SetTable} (R : Sp2 P w h a L es ep t) : ST0 P w h a L :=
  ⟨es, ep, t, R.ob, R.ents, R.tab, R.sizes, R.nd, R.led, R.room, R.few⟩
theorem ST0.whole (x : ST0 P w h a L) (ht : ∀ z ∈ L, Bears P w h z.2 z.1) : ∃ es ep t, Sp2 P w h a L es ep t :=
  let ⟨es, ep, t, a1, a2, a3, a4, a5, a6, a7, a8⟩ := x
  ⟨es, ep, t, ⟨a1, a2, a3, a4, a5, ht, a6, a7, a8⟩⟩
theorem sto_ok {H : Hp} (x : ST0 P w h a L) : ObjOk P w H h a (STO P w a L) := by
  refine ⟨x, ?_, fun h1 h2 y k => ?_⟩
  · obtain ⟨_, _, _, ⟨o, ho, _⟩, _⟩ := x
    exact ⟨o, ho⟩
  · obtain ⟨es, ep, t, ⟨o, ho, r⟩, q⟩ := y
    exact ⟨es, ep, t, ⟨o, k o ho, r⟩, q⟩
theorem pair_items {k : PK} {us : List Value} (rv : Vals (keyVs k) us) : ItemsAre (leafKind P w) (kl k) us := by
  match us, rv with
  | [_, _], .cons r1 (.cons r2 .nil) =>
    obtain ⟨t, rfl⟩ := r2
    exact .cons (pV_is (P := P) (w := w) r1) (.cons (show Leaf.isOf (.num k.2) (.int k.2 t) = true by simp [Leaf.isOf]) .nil)
theorem refs_are : ∀ {ks : List (Addr × PK)} {us : List Value}, Vals (ks.map fun z => V.ref z.1) us → us = ks.map fun z => Value.ref z.1
  | [], _, .nil => rfl
  | _ :: _, _, .cons r t => congr (congrArg List.cons r) (refs_are t)
end
section
variable {X : Cx} {pins : List (Addr × Obj)} {σ : L2.St} {H : Hp} {s : Shared} {E : Value → Shared → Prop}
theorem bears_of {b : Addr} {k : PK} (I : Inv X pins σ H s) (ht : SqT X.K H b (keyVs k)) : Bears X.prog X.w s.heap k b := by
  obtain ⟨us, rv, ⟨o, ho, hc, n, hd⟩, _⟩ := I.tuple ht
  exact ⟨o, us.toArray, n, ho, hc, hd, by simpa using pair_items rv⟩
/-- set(xs) -/
def rSetP (K : PySem.W.Frag) (P : Program) (w : World) : List V → Hp → VK → Prop := fun xs H Q => ∃ (l : Addr) (ks : List (Addr × PK)), xs = [V.ref l] ∧ SqL K H l (ks.map fun p => V.ref p.1) ∧ (∀ p ∈ ks, SqT K H p.1 (keyVs p.2)) ∧ ks.length ≤ 250 ∧
  ∀ a L, H a = none → (∀ p ∈ L, p ∈ ks) → (∀ p ∈ ks, p.2 ∈ L.map (·.2)) → (L.map (·.2)).Nodup → Q (.ref a) (upd H a (STO P w a L))
theorem call_setP (hc : X.calm = true) (hu : X.A.units + 64 < cLine) : CallR X (.type "set") (rSetP X.K X.prog X.w) := by
  intro pins s σ H xs us Q I rv hq
  obtain ⟨l, ks, rfl, hl, hk, few, q⟩ := hq
  obtain ⟨its, rl, pl, _⟩ := I.list hl
  rw [Vals.ref1 rv]
  refine call_set_pairs (ks := ks) (I.ok.hd hc) pl.isList (by simpa using refs_are rl) (fun z hz => bears_of I (hk z hz)) few (by omega) fun h tk L es ep t R g x => ?_
  have J := I.laid (t' := tk) x (Nat.le_refl _) (sto_ok R.less)
  refine ⟨.ref s.heap.objs.size, _, J, rfl, q _ L (I.hok.fresh (Nat.le_refl _)) (fun z hz => List.mem_of_mem_take (g.from_ z hz)) (fun z hz => g.every z ?_) R.nd⟩
  rw [List.take_length]
  exact hz
/-- len(found) -/
theorem call_lenSet : CallR X (.builtin "len") (fun xs H Q => ∃ (a : Addr) (L : List (Addr × PK)), xs = [.ref a] ∧ H a = some (STO X.prog X.w a L) ∧ Q (.int (L.length : Nat)) H) := by
  intro pins s σ H xs us Q I rv hq
  obtain ⟨a, L, rfl, ha, q⟩ := hq
  obtain ⟨es, ep, t, ⟨o, ho, hex, hd⟩, he, T, _, _, _, room, few⟩ := (I.hok a _ ha).1
  rw [Vals.ref1 rv]
  have sz := ents_size he
  refine call_len_set ho hex hd (tb_fits T (by rw [List.length_map]; omega) (by rw [sz, List.length_map])) (by omega) ⟨.int L.length, H, I.tok _, ⟨_, by rw [sz]⟩, q⟩
/-- found.add(t) -/
theorem add_pair {D t : Addr} {k : PK} {L : List (Addr × PK)} {Q : Value → Shared → Prop} (I : Inv X pins σ H s) (hD : H D = some (STO X.prog X.w D L)) (hL : ∀ p ∈ L, SqT X.K H p.1 (keyVs p.2)) (few : L.length < 250) (ht : SqT X.K H t (keyVs k)) (hu : X.A.units + 200 < cLine)
    (q : ∀ M s', (k ∈ L.map (·.2) → M = L) → (k ∉ L.map (·.2) → M.Perm ((t, k) :: L)) → Inv X pins σ (upd H D (STO X.prog X.w D M)) s' → Q .none s') : wpAny (model X.prog X.w) X.A (call (.builtin "set.add") [.ref D, .ref t]) Q E s := by
  obtain ⟨es, ep, tb, R⟩ := ST0.whole (show ST0 X.prog X.w s.heap D L from (I.hok D _ hD).1) fun z hz => bears_of I (hL z hz)
  have hu1 : X.A.units + 1 < cLine := by omega
  refine call_add_pair R (bears_of I ht) hu1 few fun h tk M es' ep' t' sb R2 c1 c2 => q M _ c1 c2 ?_
  exact I.write (e := D) (t' := tk) (by rw [hD]; trivial) (.inl rfl) (fun b u hb e => (sb.2 b hb).trans e) (let ⟨o, ho, _⟩ := R2.ob; ⟨o, ho⟩) (sto_ok R2.less)
end
/-- {elt for tg in iter if ..}: D the new set -/
def tScP (K : PySem.W.Frag) (P : Program) (w : World) (wi : TI) (g : TG) (tt : TT) (te : TE) (vs : List Nat) : TE := fun σ H Q => wi σ H fun J H1 => ∀ D, H1 D = none → ∃ W : Nat → Nat → Hp → Prop, (∃ m, W 0 m (upd H1 D (STO P w D []))) ∧ ∀ i m H, W i m H →
  (J.stop i H ∧ Q (.ref D) H) ∨ (J.go i H ∧ ∃ Nx : Hp → Prop, (∀ H', Nx H' → ∃ m', m' < m ∧ W (i + 1) m' H') ∧ ∀ x H', J.yld i H x H' → g x (wipe σ vs) H' fun σ2 H2 => wipe σ2 vs = wipe σ vs ∧ tt σ2 H2 fun b H3 =>
    if b = true then te σ2 H3 fun y H4 => ∃ (L : List (Addr × PK)) (t : Addr) (k : PK), H4 D = some (STO P w D L) ∧ (∀ p ∈ L, SqT K H4 p.1 (keyVs p.2)) ∧ L.length < 250 ∧ y = .ref t ∧ SqT K H4 t (keyVs k) ∧
      ∀ L', (k ∈ L.map (·.2) → L' = L) → (k ∉ L.map (·.2) → L'.Perm ((t, k) :: L)) → Nx (upd H4 D (STO P w D L')) else Nx H3)
section
variable {X : Cx} {elt tg iter : Expr} {ifs : List Expr} {scope : Scope} {pos : Pos} {g : TG} {tt : TT} {te : TE} {s0 : Shared} {H0 : Hp} {ce : Env} {fp : List Addr}
theorem blk_fp {σ : L2.St} {H : Hp} {s : Shared} (I : Inv (X.blk s0 H0 scope ce fp) [] σ H s) (un : ∀ b ∈ fp, H b = none) : ∀ b ∈ fp, FpOk (X.blk s0 H0 scope ce fp) [] H b := fun b hb =>
  let ⟨e1, e2⟩ := I.ok.exf b hb
  ⟨un b hb, e1, I.ok.exfs b hb, .inl hb, e2, fun p hp => absurd (show p ∈ ([] : List (Addr × Obj)) ++ [] from hp) (by simp)⟩
/-- the block's loop, all its turns -/
theorem scP_loop {it D : Addr} {tn : Nat → Heap → Prop} {J : It} {σ : L2.St} {vs : List Nat} {R : Result → Shared → Prop} {W : Nat → Nat → Hp → Prop} {Qd : Hp → Prop} (hc : X.calm = true) (hu : X.A.units + 200 < cLine) (T : Turn X.prog X.w X.K tg J fp it tn)
    (pg : PG (X.blk s0 H0 scope ce fp) tg g) (pt : PTs (X.blk s0 H0 scope ce fp) ifs tt) (pe : PE (X.blk s0 H0 scope ce fp) elt te)
    (turn : ∀ i m H, W i m H → (J.stop i H ∧ Qd H) ∨ (J.go i H ∧ ∃ Nx : Hp → Prop, (∀ H', Nx H' → ∃ m', m' < m ∧ W (i + 1) m' H') ∧ ∀ x H', J.yld i H x H' → g x (wipe σ vs) H' fun σ2 H2 => wipe σ2 vs = wipe σ vs ∧ tt σ2 H2 fun b H3 =>
      if b = true then te σ2 H3 fun y H4 => ∃ (L : List (Addr × PK)) (t : Addr) (k : PK), H4 D = some (STO X.prog X.w D L) ∧ (∀ p ∈ L, SqT X.K H4 p.1 (keyVs p.2)) ∧ L.length < 250 ∧ y = .ref t ∧ SqT X.K H4 t (keyVs k) ∧
        ∀ L', (k ∈ L.map (·.2) → L' = L) → (k ∉ L.map (·.2) → L'.Perm ((t, k) :: L)) → Nx (upd H4 D (STO X.prog X.w D L')) else Nx H3))
    (fin : ∀ H' s', Inv (X.blk s0 H0 scope ce fp) [] (wipe σ vs) H' s' → Qd H' → R (.ok .next) s') {n i : Nat} {H : Hp} {s : Shared} (I : Inv (X.blk s0 H0 scope ce fp) [] (wipe σ vs) H s) (st : tn i s.heap) (un : ∀ b ∈ fp, H b = none) (w : W i n H) :
    codeAny (model X.prog X.w) X.A (.compLoop (.SetComp elt [⟨tg, iter, ifs, 0⟩] scope pos) 0 (.ref it) (.ref D) ce) R s := by
  refine PpSet.compLoopS_any (fun n s' => ∃ i H', Inv (X.blk s0 H0 scope ce fp) [] (wipe σ vs) H' s' ∧ tn i s'.heap ∧ (∀ b ∈ fp, H' b = none) ∧ W i n H') ?_ n ⟨i, H, I, st, un, w⟩
  clear I st un w n i H s
  rintro n s1 ⟨i, H1, I1, st1, un1, w1⟩
  rcases turn i n H1 w1 with ⟨stop, q⟩ | ⟨go, Nx, hN, step⟩
  · refine thnF (T.done (X.blk s0 H0 scope ce fp) rfl rfl rfl hc i [] s1 _ H1 (fun _ _ => False) I1 (blk_fp I1 un1) st1 stop) fun r s2 ⟨e, I2⟩ => ?_
    cases e
    exact fin H1 s2 I2 q
  · refine thnF (T.item (X.blk s0 H0 scope ce fp) rfl rfl rfl hc i [] s1 _ H1 (fun _ _ => False) I1 (blk_fp I1 un1) st1 go) fun r s2 ⟨u, e, more⟩ => ?_
    cases e
    refine thnF more fun _ s3 ⟨x, H3, I3, rx, y, st3, un3⟩ => ?_
    refine thnF (pg.run _ s3 _ H3 x u _ (I3.pinned (blk_fp I3 un3) (T.obj _ _ st3)) rx (step x H3 y)) fun _ s4 ⟨σ4, H4, I4, w4, q4⟩ => ?_
    refine thnF (pt.run _ s4 σ4 H4 _ I4 q4) fun b s5 ⟨H5, I5, q5⟩ => ?_
    have back : ∀ {s' : Shared} {H' : Hp}, Inv (X.blk s0 H0 scope ce fp) ([] ++ pinsAt fp s3.heap) σ4 H' s' → Nx H' → ∃ m, m < n ∧ ∃ i H', Inv (X.blk s0 H0 scope ce fp) [] (wipe σ vs) H' s' ∧ tn i s'.heap ∧ (∀ b ∈ fp, H' b = none) ∧ W i m H' := fun {s' H'} J nx => by
      obtain ⟨m, lt, w'⟩ := hN H' nx
      have held := fun b (hb : b ∈ fp) o (e : s3.heap.get? b = some o) => J.pin (b, o) (List.mem_append_right _ (List.mem_append_right _ (mem_pinsAt hb e)))
      refine ⟨m, lt, i + 1, H', ?_, T.keep _ _ _ st3 fun b hb o e => (held b hb o e).1, fun b hb => let ⟨o, e, _⟩ := T.obj _ _ st3 b hb; (held b hb o e).2.1, w'⟩
      rw [← w4]
      exact (J.unpinned (pins := [])).weak (wipe_length σ4 vs) fun j v e => (wipe_some e).1
    cases b with
    | false => exact back I5 (by simpa using q5)
    | true =>
      rw [if_pos rfl] at q5
      refine thnF (pe.run _ s5 σ4 H5 _ I5 q5) fun z s6 ⟨v, H6, I6, r6, L, t, k, hD, hL, few, ev, ht, nx⟩ => ?_
      subst ev
      cases (show z = Value.ref t from r6)
      exact add_pair (X := X.blk s0 H0 scope ce fp) I6 hD hL few ht hu fun M s7 c1 c2 I7 => back I7 (nx M c1 c2)
end
/-- a set comprehension whose items are pairs -/
theorem pe_scP {X : Cx} {elt tg iter : Expr} {ifs : List Expr} {scope : Scope} {own : List (Str × Nat)} {pos : Pos} {wi : TI} {g : TG} {tt : TT} {te : TE} (hu : X.A.units + 200 < cLine) (hc : X.calm = true) (hN : X.N.Nodup) (hi : PI X tg iter wi) (ok : BlkOk X.N X.env.scope scope own)
    (hg : ∀ (s : Shared) (H : Hp) (C : Addr) (cl : List (Str × Addr)) (fp : List Addr), PG (X.blk s H scope (compEnvC scope cl C X.env) fp) tg g) (ht : ∀ (s : Shared) (H : Hp) (C : Addr) (cl : List (Str × Addr)) (fp : List Addr), PTs (X.blk s H scope (compEnvC scope cl C X.env) fp) ifs tt)
    (he : ∀ (s : Shared) (H : Hp) (C : Addr) (cl : List (Str × Addr)) (fp : List Addr), PE (X.blk s H scope (compEnvC scope cl C X.env) fp) elt te) (hs : ∀ x, foldedSetIterable iter X.env x = pure x := by intro _; rfl) :
    PE X (.SetComp elt [⟨tg, iter, ifs, 0⟩] scope pos) (tScP X.K X.prog X.w wi g tt te (own.map (·.2))) := by
  refine ⟨fun pins s σ H Q I h => ?_⟩
  rw [PpSet.eval_SetComp]
  have named : ∀ y ∈ scope.names, y.2 = .free → ∃ c, X.env.cells.lookup y.1 = some c := fun y hy e => (ok.free y hy e).elim (fun z => I.ok.has _ (.inl z)) fun z => I.ok.has _ (.inr z)
  refine wpAny_comprehension_free rfl hs (closure_ok named) ok.kind (fun y hy e => (ok.uniq y hy).trans (congrArg some e)) (thn (hi.run pins s σ H _ I h) fun _ s1 more => thn more fun _ s2 ⟨it, fp, tn, J, H2, e, I2, T, st2, f2, q⟩ => ?_)
  subst e
  refine PpSet.newSet_ok (newEnv_comp ?_)
  generalize hD : s2.heap.objs.size = D
  have le : s2.heap.objs.size ≤ D := Nat.le_of_eq hD
  obtain ⟨W, ⟨m0, w0⟩, turn⟩ := q D (I2.hok.fresh le)
  have grown : Ext s2.heap (s2.heap.push (bareO X.w)) := Ext.push _ _
  have I3 : Inv X pins σ (upd H2 D (STO X.prog X.w D [])) { s2 with heap := s2.heap.push (bareO X.w) } := I2.laid (t' := s2.toks) grown le (sto_ok (sp2_bare (hD ▸ Heap.get?_push_size _ rfl)).less)
  have big : (s2.heap.push (bareO X.w)).objs.size = D + 1 := by rw [Heap.size_push, hD]
  have small : ∀ b ∈ fp, b < D := fun b hb => let ⟨o, e, _⟩ := T.obj _ _ st2 b hb; hD ▸ Heap.lt_size e
  have f3 : ∀ b ∈ fp, FpOk X pins (upd H2 D (STO X.prog X.w D [])) b ∧ b < (s2.heap.push (bareO X.w)).objs.size := fun b hb =>
    ⟨⟨(upd_ne (Nat.ne_of_lt (small b hb))).trans (f2 b hb).1, (f2 b hb).2⟩, by rw [big]; exact Nat.lt_succ_of_lt (small b hb)⟩
  have I4 := block_start I3 ok hN f3
  have st3 : tn 0 (s2.heap.push (bareO X.w)) := T.keep _ _ _ st2 fun b _ o e => grown b o e
  have st4 : tn 0 (pushCells ((s2.heap.push (bareO X.w)).push { cls := .type "dict", data := .dict #[] }) scope.names) := T.keep _ _ _ st3 fun b _ o e => pushCells_keeps _ _ _ _ (Heap.get?_push_of_some _ e)
  have loop := scP_loop (elt := elt) (tg := tg) (iter := iter) (ifs := ifs) (pos := pos) (R := compPost (model X.prog X.w) X.A X.xe none (EP X pins σ Q) (.ref D) (s2.heap.push (bareO X.w)).objs.size) (Qd := Q (.ref D)) hc hu T (hg _ _ _ _ _) (ht _ _ _ _ _) (he _ _ _ _ _) turn (fun H' s' J7 qq => ?fin) I4 st4 (fun b hb => (f3 b hb).1.1) w0
  case fin =>
    have back : Inv X pins σ H' s' := I3.call' (ch := fp) J7.os J7.base J7.hok J7.bare fun b hb => let ⟨_, e1, _, e3, e4, e5⟩ := (f3 b hb).1; ⟨e3, e1, e4, e5⟩
    obtain ⟨m, ns, _⟩ := J7.loc
    obtain ⟨g0, g1, _, g3, g4, g5⟩ := I3.fpOk (Nat.le_refl _) J7.free
    exact ⟨m, ns, fun h2 sb => ⟨.ref D, H', back.turned (t' := s'.toks) (fun b o ne e => (sb.2 b ne).trans e) g0 g1 g3 g4 g5, rfl, qq⟩⟩
  exact PpSet.codeAny_compStart_set loop (T.self X.A 0 _ _ _ st4 loop)
/-- over any walk -/
theorem sc_it {K : PySem.W.Frag} {P : Program} {w : World} {J : It} {n : Nat} {G : Hp → Prop} {Y : Nat → Hp → V → Hp → Prop} (wk : Walk J n G Y) {g : TG} {tt : TT} {te : TE} {vs : List Nat} {σ : L2.St} {H1 : Hp} {D : Addr} {Qd : Hp → Prop} (Pv : Nat → Hp → Prop) (h0 : Pv 0 (upd H1 D (STO P w D [])))
    (hG : ∀ i H, i ≤ n → Pv i H → G H)
    (hs : ∀ i x H H', i < n → Pv i H → Y i H x H' → g x (wipe σ vs) H' fun σ2 H2 => wipe σ2 vs = wipe σ vs ∧ tt σ2 H2 fun b H3 =>
      if b = true then te σ2 H3 fun y H4 => ∃ (L : List (Addr × PK)) (t : Addr) (k : PK), H4 D = some (STO P w D L) ∧ (∀ p ∈ L, SqT K H4 p.1 (keyVs p.2)) ∧ L.length < 250 ∧ y = .ref t ∧ SqT K H4 t (keyVs k) ∧
        ∀ L', (k ∈ L.map (·.2) → L' = L) → (k ∉ L.map (·.2) → L'.Perm ((t, k) :: L)) → Pv (i + 1) (upd H4 D (STO P w D L')) else Pv (i + 1) H3) (hd : ∀ H, Pv n H → Qd H) :
    ∃ W : Nat → Nat → Hp → Prop, (∃ m, W 0 m (upd H1 D (STO P w D []))) ∧ ∀ i m H, W i m H →
      (J.stop i H ∧ Qd H) ∨ (J.go i H ∧ ∃ Nx : Hp → Prop, (∀ H', Nx H' → ∃ m', m' < m ∧ W (i + 1) m' H') ∧ ∀ x H', J.yld i H x H' → g x (wipe σ vs) H' fun σ2 H2 => wipe σ2 vs = wipe σ vs ∧ tt σ2 H2 fun b H3 =>
        if b = true then te σ2 H3 fun y H4 => ∃ (L : List (Addr × PK)) (t : Addr) (k : PK), H4 D = some (STO P w D L) ∧ (∀ p ∈ L, SqT K H4 p.1 (keyVs p.2)) ∧ L.length < 250 ∧ y = .ref t ∧ SqT K H4 t (keyVs k) ∧
          ∀ L', (k ∈ L.map (·.2) → L' = L) → (k ∉ L.map (·.2) → L'.Perm ((t, k) :: L)) → Nx (upd H4 D (STO P w D L')) else Nx H3) := by
  refine ⟨fun i m H => m = n - i ∧ i ≤ n ∧ Pv i H, ⟨n, by simp, Nat.zero_le _, h0⟩, ?_⟩
  rintro i m H ⟨rfl, hi, p⟩
  have q := hG i H hi p
  by_cases hlt : i < n
  · exact .inr ⟨wk.goes i H hlt q, Pv (i + 1), fun H2 p2 => ⟨n - (i + 1), by omega, rfl, hlt, p2⟩, fun x H2 y => hs i x H H2 hlt p (wk.yields i H x H2 hlt q y)⟩
  · have e : i = n := by omega
    subst e
    exact .inl ⟨wk.stops H q, hd H p⟩
end K76
/-! text W24 -/
set_option Elab.async false
set_option linter.all false
set_option maxRecDepth 100000
set_option maxHeartbeats 1000000
namespace K76
open PySem PySem.Spec PyProof.Rows L2
theorem room200 {k : Nat} {A : Around} (r : Room k A) : A.units + 200 < cLine := by have := r.un; omega
/-- a set's size by its keys -/
theorem count_keys {x y : Wd Str} (ox : WdOk x) (hp : (Wd.nms x).Perm (Wd.nms y)) {ks : List PK} (nd : ks.Nodup) (φ : Option Str × Nat → PK) (g : PK → Option Str × Nat) (hg : ∀ z ∈ (lensF x y).map (·.2), g (φ z) = z) (hm : ∀ k, k ∈ ks ↔ ∃ z ∈ (lensF x y).map (·.2), k = φ z) : ks.length = (restN x y).length := by
  have h1 : (ks.map g).Nodup := by
    rw [List.Nodup, List.pairwise_map]
    refine List.Pairwise.imp_of_mem (fun {a b} ha hb hne => ?_) nd
    obtain ⟨z, hz, rfl⟩ := (hm a).mp ha
    obtain ⟨z2, hz2, rfl⟩ := (hm b).mp hb
    rw [hg z hz, hg z2 hz2]
    exact fun e => hne (by rw [e])
  have h2 := rest_count ox.nd (fun n hn => hp.subset hn) h1 fun z => by
    rw [List.mem_map]
    constructor
    · rintro ⟨k, hk, rfl⟩
      obtain ⟨z, hz, rfl⟩ := (hm k).mp hk
      rw [hg z hz]; exact hz
    · intro hz
      exact ⟨φ z, (hm _).mpr ⟨z, hz, rfl⟩, hg z hz⟩
  rw [← h2, List.length_map]
/-- what the set holds after some turns -/
def Holds2 (K : PySem.W.Frag) (H : Hp) (L : List (Addr × PK)) (zs : List PK) : Prop := (∀ p ∈ L, SqT K H p.1 (keyVs p.2)) ∧ (L.map (·.2)).Nodup ∧ (∀ k, k ∈ L.map (·.2) ↔ k ∈ zs) ∧ L.length ≤ zs.length
theorem Holds2.add {K : PySem.W.Frag} {H H' : Hp} {L L' : List (Addr × PK)} {zs : List PK} {t : Addr} {k : PK} (h : Holds2 K H L zs) (kp : Kp H H') (ht : SqT K H' t (keyVs k)) (h1 : k ∈ L.map (·.2) → L' = L) (h2 : k ∉ L.map (·.2) → L'.Perm ((t, k) :: L)) : Holds2 K H' L' (zs ++ [k]) := by
  obtain ⟨a, b, c, d⟩ := h
  by_cases m : k ∈ L.map (·.2)
  · rw [h1 m]
    refine ⟨fun p hp => kp.T (a p hp), b, fun k2 => ?_, by rw [List.length_append]; omega⟩
    rw [List.mem_append, List.mem_singleton, ← c k2]
    exact ⟨.inl, fun h => h.elim id fun e => e ▸ m⟩
  · have pm := h2 m
    have pm2 := pm.map (·.2)
    refine ⟨fun p hp => ?_, pm2.nodup_iff.mpr (List.nodup_cons.mpr ⟨m, b⟩), fun k2 => ?_, ?_⟩
    · rcases List.mem_cons.mp (pm.subset hp) with e | h
      · rw [e]; exact ht
      · exact kp.T (a p h)
    · rw [pm2.mem_iff, List.map_cons, List.mem_cons, c k2, List.mem_append, List.mem_singleton]
      exact ⟨fun h => h.elim .inr .inl, fun h => h.elim .inr .inl⟩
    · rw [pm.length_eq, List.length_append, List.length_cons, List.length_singleton]; omega
def spLets (K : PySem.W.Frag) : Sp := fun vs H Q _ => ∃ (a b c e : Addr) (x y : Wd Str) (ds : List (Mv Str)) (ys : List Str), vs = [.ref a, .ref b, .ref c, .ref e] ∧ WoodAt K H a x ∧ WoodAt K H b y ∧ WdOk x ∧ WdOk y ∧ (Wd.nms x).Perm (Wd.nms y) ∧ MvsAt K H c ds ∧ (∀ d ∈ ds, NmMv d) ∧ ds.length ≤ 1000 ∧ Srt x y ys ∧ ValAt K H e (rightV x y ys) ∧
  Ans H (.bl (decide (mvAll (Wd.row x) ds = some (Wd.row y)) && decide ((Wd.nms x).length = ds.length + (restN x y).length))) Q
def spCount (K : PySem.W.Frag) : Sp := fun vs H Q _ => ∃ (a b e : Addr) (x y : Wd Str) (ys : List Str), vs = [.ref a, .ref b, .ref e] ∧ WoodAt K H a x ∧ WoodAt K H b y ∧ WdOk x ∧ WdOk y ∧ (Wd.nms x).Perm (Wd.nms y) ∧ Srt x y ys ∧ ValAt K H e (rightV x y ys) ∧ Ans H (.int ((restN x y).length : Nat)) Q
/-- the names in the labels' order, with their parents and lengths -/
theorem srt_get {x y : Wd Str} {ys : List Str} (hs : Srt x y ys) {n : Str} (h : n ∈ ys) : ∃ p f, (n, p, f) ∈ lensF x y := by
  obtain ⟨z, hz, rfl⟩ := List.mem_map.mp (hs.pm.subset h)
  obtain ⟨f, hf⟩ := stay_F (x := z.1) (p := z.2) hz
  exact ⟨_, _, hf⟩
theorem srt_has {x y : Wd Str} {ys : List Str} (hs : Srt x y ys) {e : Tri Str} (h : e ∈ lensF x y) : e.1 ∈ ys := hs.pm.symm.subset (by
  have h2 := F_stay (x := e.1) (p := e.2.1) (f := e.2.2) h
  exact List.mem_map_of_mem (f := (·.1)) h2)
def triOf (x y : Wd Str) (n : Str) : Option Str × Nat := match (lensF x y).find? (fun e => decide (e.1 = n)) with
  | some e => e.2
  | none => (none, 0)
theorem tri_of {x y : Wd Str} (ok : WdOk x) {n : Str} {z : Option Str × Nat} (h : (n, z) ∈ lensF x y) : triOf x y n = z := by
  unfold triOf
  cases e : (lensF x y).find? (fun e => decide (e.1 = n)) with
  | none => exact absurd (List.find?_eq_none.mp e _ h) (by simp)
  | some w =>
    have h1 := List.mem_of_find?_eq_some e
    have h2 := List.find?_some e
    have h3 : w.1 = n := of_decide_eq_true h2
    obtain ⟨m, pf⟩ := w
    simp only at h3
    subst h3
    exact nd_snd2 (lens_nd (y := y) ok) h1 h
theorem keys_iff {x y : Wd Str} (ok : WdOk x) {ys : List Str} (hs : Srt x y ys) (φ : Option Str × Nat → PK) (k : PK) : k ∈ ys.map (fun n => φ (triOf x y n)) ↔ ∃ z ∈ (lensF x y).map (·.2), k = φ z := by
  rw [List.mem_map]
  constructor
  · rintro ⟨n, hn, rfl⟩
    obtain ⟨p, f, hf⟩ := srt_get hs hn
    exact ⟨(p, f), List.mem_map_of_mem (f := (·.2)) hf, by rw [tri_of ok hf]⟩
  · rintro ⟨z, hz, rfl⟩
    obtain ⟨e, he, rfl⟩ := List.mem_map.mp hz
    exact ⟨e.1, srt_has hs he, by rw [tri_of ok (n := e.1) (z := e.2) he]⟩
def φP (z : Option Str × Nat) : PK := (z.1, ((z.2 - 1 : Nat) : Int))
def gP (k : PK) : Option Str × Nat := (k.1, k.2.toNat + 1)
def φL (z : Option Str × Nat) : PK := (some (par z.1), ((z.2 - 1 : Nat) : Int))
def gL (k : PK) : Option Str × Nat := (match k.1 with
  | some s => if s = "" then none else some s
  | none => none, k.2.toNat + 1)
theorem gP_ok {x y : Wd Str} : ∀ z ∈ (lensF x y).map (·.2), gP (φP z) = z := by
  intro z hz
  obtain ⟨e, he, rfl⟩ := List.mem_map.mp hz
  obtain ⟨n, p, f⟩ := e
  have := good_pos good_F he
  show (p, (((f - 1 : Nat) : Int)).toNat + 1) = (p, f)
  rw [show (((f - 1 : Nat) : Int)).toNat + 1 = f by omega]
theorem gL_ok {x y : Wd Str} (ok : WdOk x) : ∀ z ∈ (lensF x y).map (·.2), gL (φL z) = z := by
  intro z hz
  obtain ⟨e, he, rfl⟩ := List.mem_map.mp hz
  obtain ⟨n, p, f⟩ := e
  have := good_pos good_F he
  have h2 := (par_in ok (stay_mem.mp (F_stay he)).1).2.2
  show ((if par p = "" then none else some (par p)), (((f - 1 : Nat) : Int)).toNat + 1) = (p, f)
  rw [h2, show (((f - 1 : Nat) : Int)).toNat + 1 = f by omega]
section
variable {P : Program} {w : World} {K : PySem.W.Frag} {mg : Str → Option Value} {base : Heap}
abbrev N_law_label_count : List Str := ["_law_one", "_law_other", "_law_value", "_law_stay", "_law_name_here", "_law_label"]
theorem sc_law_label_count : FnScope N_law_label_count ["_law_one", "_law_other", "_law_value"] (defScope (top 66)) := ⟨rfl, rfl, rfl, by decide +kernel, rfl, by decide +kernel, by decide +kernel⟩
theorem cal_law_label_count (T : Tp K mg) (F : Fnn K mg "_law_label_count" 66)  (c__law_staying : Cal P w K mg base 3 "_law_staying" (spSty K)) : Cal P w K mg base 4 "_law_label_count" (spCount K) := by
  have nd := sc_law_label_count.nd
  refine cal F (fun _ _ _ _ _ _ us hl => match us, hl with | [_, _, _], _ => rfl) sc_law_label_count (fun vs H Q E h => by obtain ⟨a, b, e, x, y, ys, rfl, hx, hy, ox, oy, hp, hs, hv, q⟩ := h; rfl) (fun f cdv A outer s H vs Q E hr h => ?_)
  have hu := hu_of hr
  refine ⟨_, (pss_cons (ps_set (i := 3) nd rfl (.inr rfl) (pe_cc c__law_staying hr (by decide) (by rfl) (pa_cons (pv 0) (pa_cons (pv 1) pa_nil))))
      (pss_one (ps_ret (pe_callB call_lenSet (by rfl) T.b_len (by decide +kernel) (pa_cons (pe_callTy (call_setP rfl hr.units) (by rfl) T.b_set (by decide +kernel) (pa_cons (pe_lc (own := [("_law_name_here", 4), ("_law_label", 5)]) rfl nd (pi_tup (pv 2)) (blkOk_by (own := [("_law_name_here", 4), ("_law_label", 5)]) (N := N_law_label_count) (sc := defScope (top 66)) (by decide +kernel)) (fun _ _ _ _ _ => (pg_tupK (K := K) (n := 2) rfl rfl (pgs_cons (pg_name (i := 4) nd rfl (.inl rfl)) (pgs_cons (pg_name (i := 5) nd rfl (.inl rfl)) pgs_nil)))) (fun _ _ _ _ _ => pts_nil) (fun _ _ _ _ _ => (pe_tup (pa_cons (pe_ix (ix_tupK (K := K) rfl) (pe_dget hu (pv 3) (pv 4) (fun _ _ => rfl)) pe_int (fun _ _ => rfl)) (pa_cons (pv 5) pa_nil))))) pa_nil)) pa_nil))))), ?_⟩
  obtain ⟨a, b, e, x, y, ys, rfl, hx, hy, ox, oy, hp, hs, hv, q⟩ := h
  refine ⟨_, rfl, _, rfl, a, b, x, y, rfl, hx, hy, ox, oy, hp, fun pd H1 np1 s1 hst => ?_⟩
  obtain ⟨vs0, hvs, hval⟩ := hv.same (Kp.of s1)
  obtain ⟨kvs, os, hk, hkk, hko, hkv⟩ := hst
  have hyl : ys.length ≤ 200 := by
    have := hs.pm.length_eq
    have h2 := stay_le (y := y) ox
    rw [List.length_map] at this
    omega
  refine ⟨_, rfl, e, rfl, ⟨_, hvs⟩, fun D hD => ?_⟩
  refine lc_rel (H1 := H1) ys (fun n H v => ∃ t, v = .ref t ∧ SqT K H t [.str n, .int (lblOf x y n : Nat)]) (fun H v n => ∃ t, v = .ref t ∧ SqT K H t (keyVs (φL (triOf x y n)))) (fun _ _ _ _ s ⟨t, e, h⟩ => ⟨t, e, s.T h⟩) (fun _ => true) (walk_tup (K := K) (a := e) (xs := vs0)) (by rw [hval.len, rightV, List.length_map]) ?_ hD (by omega) (fun H s => sameT s hvs) ?_ ?_
  · rintro i H3 v H4 sm ⟨rfl, hvv⟩
    obtain ⟨z, hz, t, e, ht⟩ := hval.get hvv
    unfold rightV at hz
    rw [List.getElem?_map] at hz
    cases hz2 : ys[i]? with
    | none => rw [hz2] at hz; cases hz
    | some n => rw [hz2] at hz; cases hz; exact ⟨rfl, n, rfl, t, e, sameT sm ht⟩
  · rintro i n v H4 Qn Qf hi ⟨t, rfl, ht⟩ s4 k1 k2
    obtain ⟨p, f, hf⟩ := srt_get hs (List.mem_of_getElem? hi)
    obtain ⟨t2, h1, h2⟩ := hkv n p (F_stay hf)
    have g := DGet.k (k := kS n) (s4 _ _ hk)
    rw [h1] at g
    refine ⟨t, _, rfl, ht, rfl, _, _, rfl, _, _, rfl, rfl, rfl, ?_⟩
    refine ⟨_, rfl, _, rfl, _, _, rfl, g, t2, _, _, _, rfl, rfl, sameT s4 h2, rfl, _, rfl, by show 2 ≤ sizeLine; decide, fun t3 ht3 => ?_⟩
    generalize hE_H5 : upd H4 t3 _ = H5
    have e5 := (congrFun hE_H5 t3).symm.trans upd_same
    have n5 : ∀ q_, q_ ≠ t3 → H5 q_ = H4 q_ := by subst hE_H5; exact fun q_ h => upd_ne h
    have s5 : Same H4 H5 := by subst hE_H5; exact same_new ht3
    clear hE_H5
    refine k1 H5 _ s5 rfl ⟨t3, rfl, .inl (.inl ?_)⟩
    rw [tri_of ox hf, e5, lbl_of ox hf]
    rfl
  intro H4 zs s4 hzs hal
  rw [flt_all] at hal
  obtain ⟨ps, rfl, hps⟩ := al_paired (K := K) (R := fun t n => SqT K H4 t (keyVs (φL (triOf x y n)))) hal
  have hpl := hps.len
  have hmap : (ps.zip (ys.map fun n => φL (triOf x y n))).map (fun p => V.ref p.1) = ps.map V.ref := by
    rw [show (fun p : Addr × PK => V.ref p.1) = V.ref ∘ Prod.fst from rfl, ← List.map_map, List.map_fst_zip (by rw [List.length_map]; omega)]
  have hsnd : (ps.zip (ys.map fun n => φL (triOf x y n))).map (·.2) = ys.map fun n => φL (triOf x y n) := List.map_snd_zip (by rw [List.length_map]; omega)
  refine ⟨D, ps.zip (ys.map fun n => φL (triOf x y n)), rfl, .inl (.inl (by rw [hmap]; exact hzs)), fun p hpz => ?_, ?_, fun sa L hsa h1 h2 h3 => ?_⟩
  · obtain ⟨j, hj⟩ := List.mem_iff_getElem?.mp hpz
    rw [List.getElem?_zip_eq_some] at hj
    obtain ⟨j1, j2⟩ := hj
    rw [List.getElem?_map] at j2
    obtain ⟨n, hn, hr⟩ := hps.get j1
    rw [hn] at j2
    have e2 := Option.some.inj j2
    rw [← e2]
    exact hr
  · rw [List.length_zip, List.length_map]; omega
  generalize hE_H5 : upd H4 sa _ = H5
  have e5 := (congrFun hE_H5 sa).symm.trans upd_same
  have n5 : ∀ q_, q_ ≠ sa → H5 q_ = H4 q_ := by subst hE_H5; exact fun q_ h => upd_ne h
  have s5 : Same H4 H5 := by subst hE_H5; exact same_new hsa
  clear hE_H5
  refine ⟨sa, L, rfl, e5, ?_⟩
  have hmem : ∀ k, k ∈ L.map (·.2) ↔ ∃ z ∈ (lensF x y).map (·.2), k = φL z := fun k => by
    rw [← keys_iff ox hs φL k, ← hsnd]
    constructor
    · intro h
      obtain ⟨p, hp, rfl⟩ := List.mem_map.mp h
      exact List.mem_map_of_mem (f := (·.2)) (h1 p hp)
    · intro h
      obtain ⟨p, hp, rfl⟩ := List.mem_map.mp h
      exact h2 p hp
  have hc := count_keys ox hp h3 φL gL (gL_ok ox) hmem
  rw [List.length_map] at hc
  rw [hc]
  exact q H5 ((s1.trans s4).trans s5)
abbrev N_lets_fewest : List Str := ["one", "other", "moves", "value", "deed", "stay", "many", "name", "label"]
theorem sc_lets_fewest : FnScope N_lets_fewest ["one", "other", "moves", "value"] (defScope (top 41)) := ⟨rfl, rfl, rfl, by decide +kernel, rfl, by decide +kernel, by decide +kernel⟩
theorem cal_lets_fewest (T : Tp K mg) (F : Fnn K mg "lets_fewest" 41)  (c_require_alike : Cal P w K mg base 4 "require_alike" (spAlike K)) (c_deed_error : Cal P w K mg base 2 "deed_error" (spDeedErr K)) (c_are_right : Cal P w K mg base 5 "are_right" (spRight K)) (c_row_of : Cal P w K mg base 2 "row_of" (spRowOf K)) (c_done_all : Cal P w K mg base 5 "done_all" (spDoneAll K)) (c_staying : Cal P w K mg base 4 "staying" (spStaying K)) (c_names_of : Cal P w K mg base 3 "names_of" (spNames K)) : Cal P w K mg base 6 "lets_fewest" (spLets K) := by
  obtain ⟨aMOVES, hMOVES, kMOVES⟩ := T.MOVES
  have nd := sc_lets_fewest.nd
  refine cal F (fun _ _ _ _ _ _ us hl => match us, hl with | [_, _, _, _], _ => rfl) sc_lets_fewest (fun vs H Q E h => by obtain ⟨a, b, c, e, x, y, ds, ys, rfl, hx, hy, ox, oy, hp, ⟨vs0, hds, hdal⟩, hnm, hdl, hs, hv, q⟩ := h; rfl) (fun f cdv A outer s H vs Q E hr h => ?_)
  have hu := hu_of hr
  refine ⟨_, (pss_cons (ps_expr (pe_cc c_require_alike hr (by decide) (by rfl) (pa_cons (pv 0) (pa_cons (pv 1) pa_nil))))
      (pss_cons (ps_if (PW.pt (pw_or (pt_not (pt_val (pe_callB call_isi (by rfl) T.b_isinstance (by decide +kernel) (pa_cons (pv 2) (pa_cons (pe_bltn (v := .ty "tuple") (by rfl) T.b_tuple (by decide +kernel) rfl) pa_nil))))) (pw_or1 (pt_not (pt_val (pe_callB (cr_all rfl) (by rfl) T.b_all (by decide +kernel) (pa_cons (pe_lc (own := [("deed", 4)]) rfl nd (pi_tup (pv 2)) (blkOk_by (own := [("deed", 4)]) (N := N_lets_fewest) (sc := defScope (top 41)) (by decide +kernel)) (fun _ _ _ _ _ => (pg_name (i := 4) nd rfl (.inl rfl))) (fun _ _ _ _ _ => pts_nil) (fun _ _ _ _ _ => (pe_cmpR op_isN (pe_cc c_deed_error hr (by decide) (by rfl) (pa_cons (pv 4) pa_nil)) pe_non (nomark _)))) pa_nil))))))) (pss_one (ps_ret pe_bl)) pss_nil)
      (pss_cons (ps_if (PW.pt (pw_or (pt_not (pt_val (pe_callB (cr_all rfl) (by rfl) T.b_all (by decide +kernel) (pa_cons (pe_lc (own := [("deed", 4)]) rfl nd (pi_tup (pv 2)) (blkOk_by (own := [("deed", 4)]) (N := N_lets_fewest) (sc := defScope (top 41)) (by decide +kernel)) (fun _ _ _ _ _ => (pg_name (i := 4) nd rfl (.inl rfl))) (fun _ _ _ _ _ => pts_nil) (fun _ _ _ _ _ => (pe_cmpR (in_seqK (K := K) rfl) (pe_ix (ix_tupK (K := K) rfl) (pv 4) pe_int (fun _ _ => rfl)) (C8.pe_gc (v := .ref aMOVES) (by rfl) ⟨_, hMOVES, rfl⟩) rfl))) pa_nil)))) (pw_or1 (pt_not (pt_val (pe_cc c_are_right hr (by decide) (by rfl) (pa_cons (pv 0) (pa_cons (pv 1) (pa_cons (pv 3) pa_nil))))))))) (pss_one (ps_ret pe_bl)) pss_nil)
      (pss_cons (ps_if (pt_cmpR (op_neD hr.units) (pe_cc c_done_all hr (by decide) (by rfl) (pa_cons (pe_cc c_row_of hr (by decide) (by rfl) (pa_cons (pv 0) pa_nil)) (pa_cons (pv 2) pa_nil))) (pe_tup (pa_cons pe_str (pa_cons (pe_cc c_row_of hr (by decide) (by rfl) (pa_cons (pv 1) pa_nil)) pa_nil))) (nomark _)) (pss_one (ps_ret pe_bl)) pss_nil)
      (pss_cons (ps_set (i := 5) nd rfl (.inr rfl) (pe_callTy (call_dictP rfl) (by rfl) T.b_dict (by decide +kernel) (pa_cons (pe_cc c_staying hr (by decide) (by rfl) (pa_cons (pv 0) (pa_cons (pv 1) pa_nil))) pa_nil)))
      (pss_cons (ps_set (i := 6) nd rfl (.inl rfl) (pe_callB call_lenSet (by rfl) T.b_len (by decide +kernel) (pa_cons (pe_scP (own := [("name", 7), ("label", 8)]) (room200 hr) rfl nd (pi_tup (pv 3)) (blkOk_by (own := [("name", 7), ("label", 8)]) (N := N_lets_fewest) (sc := defScope (top 41)) (by decide +kernel)) (fun _ _ _ _ _ => (pg_tupK (K := K) (n := 2) rfl rfl (pgs_cons (pg_name (i := 7) nd rfl (.inl rfl)) (pgs_cons (pg_name (i := 8) nd rfl (.inl rfl)) pgs_nil)))) (fun _ _ _ _ _ => pts_nil) (fun _ _ _ _ _ => (pe_tup (pa_cons (pe_dget hu (pv 5) (pv 7) (fun _ _ => rfl)) (pa_cons (pv 8) pa_nil))))) pa_nil)))
      (pss_one (ps_ret (pe_cmpR op_eq (pe_op op_sub (pe_callB call_len (by rfl) T.b_len (by decide +kernel) (pa_cons (pe_cc c_names_of hr (by decide) (by rfl) (pa_cons (pv 0) pa_nil)) pa_nil)) (pv 6)) (pe_callB call_len (by rfl) T.b_len (by decide +kernel) (pa_cons (pv 2) pa_nil)) (nomark _)))))))))), ?_⟩
  obtain ⟨a, b, c, e, x, y, ds, ys, rfl, hx, hy, ox, oy, hp, ⟨vs0, hds, hdal⟩, hnm, hdl, hs, hv, q⟩ := h
  have hsh : ∀ d ∈ ds, Shrt d := fun d hd => (hnm d hd).shrt
  refine ⟨_, rfl, _, rfl, a, b, x, y, rfl, hx, hy, ox, oy, hp, fun H1 s1 => ?_⟩
  have hds1 := sameT s1 hds
  refine ⟨_, rfl, _, _, .type "tuple", _, true, rfl, .ty "tuple", tyT hds1, kit_ty (by decide +kernel), _, rfl, ?_⟩
  refine ⟨_, rfl, c, rfl, ⟨_, hds1⟩, fun D hD => ?_⟩
  have hdl2 : vs0.length = ds.length := hdal.len
  refine lc_rel (H1 := H1) ds (fun d H v => MvAt K H v d) (fun H v d => v = .bl true) (fun _ _ _ _ s h => h) (fun _ => true) (walk_tup (K := K) (a := c) (xs := vs0)) hdl2 ?_ hD (by omega) (fun H s => sameT s hds1) ?_ ?_
  · rintro i H3 v H4 sm ⟨rfl, hvv⟩
    obtain ⟨d, hd, t, rfl, ht⟩ := hdal.get hvv
    exact ⟨rfl, d, hd, t, rfl, sameT (s1.trans sm) ht⟩
  · rintro i d v H4 Qn Qf hi ⟨t, rfl, ht⟩ s4 k1 k2
    exact ⟨rfl, _, rfl, t, d, rfl, ht, hnm d (List.mem_of_getElem? hi), fun H5 s5 => ⟨rfl, k1 H5 _ s5 rfl rfl⟩⟩
  intro H2 bs s2 hbs hbal
  rw [flt_all] at hbal
  have hbl := hbal.len
  have hbs2 : bs = (List.replicate ds.length true).map V.bl := by rw [← hbl]; exact al_true hbal
  rw [hbs2] at hbs
  refine ⟨D, _, rfl, .inl (.inl hbs), _, rfl, ifE false (by simp) ?_⟩
  have s12 := s1.trans s2
  refine ⟨_, rfl, c, rfl, ⟨_, sameT s12 hds⟩, fun D2 hD2 => ?_⟩
  refine lc_rel (H1 := H2) ds (fun d H v => MvAt K H v d) (fun H v d => v = .bl true) (fun _ _ _ _ s h => h) (fun _ => true) (walk_tup (K := K) (a := c) (xs := vs0)) hdl2 ?_ hD2 (by omega) (fun H s => sameT (s12.trans s) hds) ?_ ?_
  · rintro i H3 v H4 sm ⟨rfl, hvv⟩
    obtain ⟨d, hd, t, rfl, ht⟩ := hdal.get hvv
    exact ⟨rfl, d, hd, t, rfl, sameT (s12.trans sm) ht⟩
  · rintro i d v H4 Qn Qf hi ⟨t, rfl, ht⟩ s4 k1 k2
    refine ⟨rfl, _, rfl, t, _, _, _, rfl, rfl, ht, mv0 d, aMOVES, _, rfl, .inr (kMOVES H4), rfl, flat_all _, ?_⟩
    refine k1 H4 _ (Same.refl _) rfl ?_
    cases d.w <;> rfl
  intro H3 bs2 s3 hbs2 hbal2
  rw [flt_all] at hbal2
  have hbl2 := hbal2.len
  have hbs3 : bs2 = (List.replicate ds.length true).map V.bl := by rw [← hbl2]; exact al_true hbal2
  rw [hbs3] at hbs2
  refine ⟨D2, _, rfl, .inl (.inl hbs2), _, rfl, ifE false (by simp) ?_⟩
  have s13 := s12.trans s3
  refine ⟨_, rfl, _, rfl, _, rfl, a, b, e, x, y, ys, rfl, hx.same (Kp.of s13), hy.same (Kp.of s13), ox, oy, hp, hs, hv.same (Kp.of s13), fun H4 s4 => ⟨_, rfl, ifE false rfl ?_⟩⟩
  have s14 := s13.trans s4
  refine ⟨_, rfl, a, x, rfl, hx.same (Kp.of s14), ox.short, ox.few, fun p5 H5 s5 h5 => ?_⟩
  have s15 := s14.trans s5
  have hfalse : mvAll (Wd.row x) ds ≠ some (Wd.row y) → (decide (mvAll (Wd.row x) ds = some (Wd.row y)) && decide ((Wd.nms x).length = ds.length + (restN x y).length)) = false := fun h => by rw [decide_eq_false h]; rfl
  refine ⟨_, rfl, p5, c, x, ds, rfl, h5, ⟨vs0, sameT s15 hds, hdal.mono fun _ _ ⟨t, e, h⟩ => ⟨t, e, sameT s15 h⟩⟩, hsh, ox.nd, ox.few, fun l p6 H6 q6 hm s6 h6 h7 => ?_, fun p6 H6 i z hm s6 hz h6 => ?_⟩
  · obtain ⟨z, rfl, hzp⟩ := mvAll_wood ox.nd hm
    have oz : WdOk z := ⟨hzp.nodup_iff.mpr ox.nd, fun n hn => ox.nm n (hzp.subset hn), by rw [hzp.length_eq]; exact ox.len⟩
    have s16 := s15.trans s6
    refine ⟨_, rfl, b, y, rfl, hy.same (Kp.of s16), oy.short, oy.few, fun p7 H7 s7 h8 => ⟨by show 2 ≤ sizeLine; decide, fun p8 hp8 => ?_⟩⟩
    generalize hE_H8 : upd H7 p8 _ = H8
    have e8 := (congrFun hE_H8 p8).symm.trans upd_same
    have n8 : ∀ q_, q_ ≠ p8 → H8 q_ = H7 q_ := by subst hE_H8; exact fun q_ h => upd_ne h
    have s8 : Same H7 H8 := by subst hE_H8; exact same_new hp8
    clear hE_H8
    have s78 := s7.trans s8
    refine ⟨.tuple [.str "does", .tuple (((Wd.row z).map enc).map .str)], .tuple [.str "does", .tuple (((Wd.row y).map enc).map .str)], .tup (sameT s78 h6) (.cons (.str _) (.cons (.tup (h7.same s78).sq (dp_strs _)) .nil)), .tup (.inl (.inl e8)) (.cons (.str _) (.cons (.tup (h8.same s8).sq (dp_strs _)) .nil)), shaped_two oz.rowO, shaped_two oy.rowO, _, rfl, ?_⟩
    have hev : PyData.eqv (.tuple [.str "does", .tuple (((Wd.row z).map enc).map .str)]) (.tuple [.str "does", .tuple (((Wd.row y).map enc).map .str)]) = decide (Wd.row z = Wd.row y) := by
      rw [PyData.eqv, PyData.eqvAll, PyData.eqvAll, PyData.eqvAll, rows_eqv, PyData.eqv]
      simp
    rw [hev]
    by_cases hzy : Wd.row z = Wd.row y
    · rw [hzy] at hm ⊢
      refine ifE false (by simp) ?_
      have s18 := s16.trans s78
      refine ⟨_, rfl, _, rfl, a, b, x, y, rfl, hx.same (Kp.of s18), hy.same (Kp.of s18), ox, oy, hp, fun p9 H9 zs np9 s9 hp9 hal => ?_⟩
      obtain ⟨ps, kvs, rfl, hpd, hmg, hkk, hkv⟩ := std_of ox hal
      refine ⟨p9, ps, kvs, rfl, .inl (.inl hp9), hpd, fun pd hpd => ?_⟩
      rw [hmg]
      generalize hE_H10 : upd H9 pd _ = H10
      have e10 := (congrFun hE_H10 pd).symm.trans upd_same
      have n10 : ∀ q_, q_ ≠ pd → H10 q_ = H9 q_ := by subst hE_H10; exact fun q_ h => upd_ne h
      have s10 : Same H9 H10 := by subst hE_H10; exact same_new hpd
      clear hE_H10
      have s110 := (s18.trans s9).trans s10
      obtain ⟨us, hus, hval⟩ := hv.same (Kp.of s110)
      have hyl : ys.length ≤ 200 := by
        have := hs.pm.length_eq
        have h2 := stay_le (y := y) ox
        rw [List.length_map] at this
        omega
      have hul : us.length = ys.length := by rw [hval.len, rightV, List.length_map]
      refine ⟨_, rfl, e, rfl, ⟨_, hus⟩, fun D3 hD3 => ?_⟩
      refine sc_it (K := K) (P := P) (w := w) (walk_tup (K := K) (a := e) (xs := us)) (fun i H' => Same H10 H' ∧ ∃ L, H' D3 = some (STO P w D3 L) ∧ Holds2 K H' L ((ys.take i).map fun n => φP (triOf x y n)))
        ⟨same_new hD3, [], upd_same, (fun _ h => nomatch h), List.nodup_nil, fun k => by simp, Nat.le_refl _⟩ (fun i H' _ h => sameT h.1 hus) ?_ ?_
      · rintro i v H11 H12 hi ⟨sm, L, hL, hH⟩ ⟨rfl, hvv⟩
        obtain ⟨z2, hz2, t, rfl, ht⟩ := hval.get hvv
        unfold rightV at hz2
        rw [List.getElem?_map] at hz2
        obtain ⟨n, hn, rfl⟩ : ∃ n, ys[i]? = some n ∧ (n, lblOf x y n) = z2 := by
          cases h : ys[i]? with
          | none => rw [h] at hz2; cases hz2
          | some n => rw [h] at hz2; exact ⟨n, rfl, Option.some.inj hz2⟩
        obtain ⟨p, f, hf⟩ := srt_get hs (List.mem_of_getElem? hn)
        have g := DGet.k (k := kS n) (sm _ _ e10)
        rw [hkv n p (F_stay hf)] at g
        refine ⟨t, _, rfl, sameT sm ht, rfl, _, _, rfl, _, _, rfl, rfl, rfl, ?_⟩
        refine ⟨_, rfl, _, rfl, _, _, rfl, g, _, rfl, by show 2 ≤ sizeLine; decide, fun t3 ht3 => ?_⟩
        generalize hE_H13 : upd H12 t3 _ = H13
        have e13 := (congrFun hE_H13 t3).symm.trans upd_same
        have n13 : ∀ q_, q_ ≠ t3 → H13 q_ = H12 q_ := by subst hE_H13; exact fun q_ h => upd_ne h
        have s13 : Same H12 H13 := by subst hE_H13; exact same_new ht3
        clear hE_H13
        have hkey : SqT K H13 t3 (keyVs (φP (triOf x y n))) := .inl (.inl (by rw [tri_of ox hf, e13]; show some (HO.tup [pV p, V.int ((lblOf x y n : Nat) : Int)]) = _; rw [lbl_of ox hf]; rfl))
        have hLl : L.length ≤ 200 := by have := hH.2.2.2; rw [List.length_map, List.length_take] at this; omega
        refine ⟨L, t3, φP (triOf x y n), s13 _ _ hL, fun p hp => sameT s13 (hH.1 p hp), by omega, rfl, hkey, fun L' h1 h2 => ?_⟩
        have hL13 := s13 _ _ hL
        generalize hE_H14 : upd H13 D3 _ = H14
        have e14 := (congrFun hE_H14 D3).symm.trans upd_same
        have n14 : ∀ q_, q_ ≠ D3 → H14 q_ = H13 q_ := by subst hE_H14; exact fun q_ h => upd_ne h
        have k14 : Kp H13 H14 := by subst hE_H14; exact Kp.mut hL13 (fun z => z)
        have m14 : ∀ H0, Same H0 H13 → H0 D3 = none → Same H0 H14 := by subst hE_H14; exact fun _ s h => same_mut s h
        clear hE_H14
        refine ⟨m14 H10 (sm.trans s13) hD3, L', e14, ?_⟩
        rw [List.take_add_one, hn, List.map_append]
        exact hH.add ((Kp.of s13).trans k14) (k14.T hkey) h1 h2
      · rintro H11 ⟨sm, L, hL, hH⟩
        rw [hul, List.take_length] at hH
        refine ⟨D3, L, rfl, hL, ?_⟩
        have hc := count_keys ox hp hH.2.1 φP gP gP_ok (fun k => (hH.2.2.1 k).trans (keys_iff ox hs φP k))
        rw [List.length_map] at hc
        rw [hc]
        have s111 := s110.trans sm
        refine ⟨_, rfl, a, x, rfl, hx.same (Kp.of s111), ox.short, ox.few, fun p12 H12 s12' h12 => ⟨_, _, rfl, .inr ⟨_, h12, rfl⟩, _, rfl, _, _, rfl, rfl, _, rfl, _, _, rfl, .inr ⟨_, sameT (s111.trans s12') hds, rfl⟩, rfl, ?_⟩⟩
        have q := q H12 (s111.trans s12')
        rw [List.length_map, hdl2]
        have hres : (decide (mvAll (Wd.row x) ds = some (Wd.row y)) && decide ((Wd.nms x).length = ds.length + (restN x y).length)) = decide (V.int (((Wd.nms x).length : Int) - ((restN x y).length : Int)) = V.int ((ds.length : Nat) : Int)) := by
          rw [decide_eq_true hm, Bool.true_and]
          exact decide_eq_decide.mpr ⟨fun h => by rw [h]; congr 1; omega, fun h => by have := V.int.inj h; omega⟩
        rw [hres] at q
        exact q
    · refine ifE true (by simp [hzy]) ?_
      have q := q H8 (s16.trans s78)
      rw [hfalse (fun h => hzy (Option.some.inj (hm.symm.trans h)))] at q
      exact q
  · have s16 := s15.trans s6
    refine ⟨_, rfl, b, y, rfl, hy.same (Kp.of s16), oy.short, oy.few, fun p7 H7 s7 h8 => ⟨by show 2 ≤ sizeLine; decide, fun p8 hp8 => ?_⟩⟩
    generalize hE_H8 : upd H7 p8 _ = H8
    have e8 := (congrFun hE_H8 p8).symm.trans upd_same
    have n8 : ∀ q_, q_ ≠ p8 → H8 q_ = H7 q_ := by subst hE_H8; exact fun q_ h => upd_ne h
    have s8 : Same H7 H8 := by subst hE_H8; exact same_new hp8
    clear hE_H8
    have s78 := s7.trans s8
    refine ⟨.tuple [.str "stops", .int i, .str z], .tuple [.str "does", .tuple (((Wd.row y).map enc).map .str)], .tup (sameT s78 h6) (.cons (.str _) (.cons (.int _) (.cons (.str _) .nil))), .tup (.inl (.inl e8)) (.cons (.str _) (.cons (.tup (h8.same s8).sq (dp_strs _)) .nil)), ?_, shaped_two oy.rowO, _, rfl, ?_⟩
    · unfold SeqAt.shaped
      rw [PyData.canLay0, PyData.canLayAll0, PyData.canLayAll0, PyData.canLayAll0, PyData.canLayAll0, PyData.canLay0, PyData.canLay0, PyData.canLay0, hz]
      simp only [PyData.depth, PyData.depthAll]
      rw [show PyData.strOk ("stops" : Str) = true by decide +kernel]
      rfl
    refine ifE true ?_ ?_
    · rw [PyData.eqv, PyData.eqvAll, PyData.eqv]
      have : (("stops" : Str) == ("does" : Str)) = false := by decide
      rw [this]
      rfl
    have q := q H8 (s16.trans s78)
    rw [hfalse (fun h => by rw [hm] at h; cases h)] at q
    exact q
end
end K76
/-! text W25 -/
set_option Elab.async false
set_option linter.all false
set_option maxRecDepth 100000
set_option maxHeartbeats 1000000
namespace K76
open PySem PySem.Spec PyProof.Rows L2
def spBent (K : PySem.W.Frag) : Sp := fun vs H Q _ => ∃ (d a l : Addr) (ds : List (Mv Str)) (ns : List Str), vs = [.ref d, .ref a, .ref l] ∧ Deck H d ∧ MvsAt K H a ds ∧ (∀ d ∈ ds, NmMv d) ∧ 1 ≤ ds.length ∧ ds.length ≤ 1000 ∧ l ≠ d ∧ SqL K H l (ns.map V.str) ∧ (∀ n ∈ ns, IsNm n) ∧ 1 ≤ ns.length ∧ ns.length ≤ 1000 ∧
  ∀ p H' ds', MvsAt K H' p ds' → (∀ d ∈ ds', NmMv d) → ds'.length = ds.length → SameD d H H' → Deck H' d → Q (.ref p) H'
theorem pick2 {K : PySem.W.Frag} {d : Addr} {H H' : Hp} (s : SameD d H H') (k : Deck H d) {a : Addr} {ds : List (Mv Str)} (h : MvsAt K H a ds) : MvsAt K H' a ds :=
  let ⟨vs, h1, h2⟩ := h
  ⟨vs, (s.kp k).T h1, h2.mono fun _ _ ⟨p, e, q⟩ => ⟨p, e, (s.kp k).T q⟩⟩
theorem al_take {α β : Type} {R : α → β → Prop} : ∀ {as : List α} {bs : List β} (k : Nat), Al R as bs → Al R (as.take k) (bs.take k)
  | _, _, 0, _ => trivial
  | [], [], _ + 1, _ => trivial
  | _ :: _, _ :: _, k + 1, h => ⟨h.1, al_take k h.2⟩
  | [], _ :: _, _, h => h.elim
  | _ :: _, [], _, h => h.elim
theorem al_drop {α β : Type} {R : α → β → Prop} : ∀ {as : List α} {bs : List β} (k : Nat), Al R as bs → Al R (as.drop k) (bs.drop k)
  | _, _, 0, h => h
  | [], [], _ + 1, _ => trivial
  | _ :: _, _ :: _, k + 1, h => al_drop k h.2
  | [], _ :: _, _, h => h.elim
  | _ :: _, [], _, h => h.elim
section
variable {P : Program} {w : World} {K : PySem.W.Frag} {mg : Str → Option Value} {base : Heap}
abbrev N_law_bent : List Str := ["_law_deck_here", "_law_moves", "_law_names_here", "_law_at", "_law_deed", "_law_name_here", "_law_way"]
theorem sc_law_bent : FnScope N_law_bent ["_law_deck_here", "_law_moves", "_law_names_here"] (defScope (top 67)) := ⟨rfl, rfl, rfl, by decide +kernel, rfl, by decide +kernel, by decide +kernel⟩
theorem cal_law_bent (T : Tp K mg) (F : Fnn K mg "_law_bent" 67)  (c__law_draw : Cal P w K mg base 1 "_law_draw" spDraw) (c__law_pick : Cal P w K mg base 2 "_law_pick" (spPick K)) : Cal P w K mg base 3 "_law_bent" (spBent K) := by
  have nd := sc_law_bent.nd
  refine cal F (fun _ _ _ _ _ _ us hl => match us, hl with | [_, _, _], _ => rfl) sc_law_bent (fun vs H Q E h => by obtain ⟨d, a, l, ds, ns, rfl, hd, hds, hnm, hl1, hl2, hld, hl, hns, hn1, hn2, q⟩ := h; rfl) (fun f cdv A outer s H vs Q E hr h => ?_)
  have hu := hu_of hr
  refine ⟨_, (pss_cons (ps_set (i := 3) nd rfl (.inl rfl) (pe_cc c__law_draw hr (by decide) (by rfl) (pa_cons (pv 0) (pa_cons (pe_callB call_len (by rfl) T.b_len (by decide +kernel) (pa_cons (pv 1) pa_nil)) pa_nil))))
      (pss_cons (ps_par (i := 4) (j := 5) rfl nd rfl rfl (by decide) rfl rfl (pa_cons (pe_ix ix_tup (pv 1) (pv 3) (fun _ _ => rfl)) (pa_cons (pe_cc c__law_pick hr (by decide) (by rfl) (pa_cons (pv 0) (pa_cons (pv 2) pa_nil))) pa_nil)) (by rfl))
      (pss_cons (ps_set (i := 6) nd rfl (.inl rfl) (pe_cc c__law_draw hr (by decide) (by rfl) (pa_cons (pv 0) (pa_cons pe_int pa_nil))))
      (C8.pss_cut (ps_if (pt_cmpR op_eq (pv 6) pe_int (nomark _)) (pss_one (ps_set (i := 4) nd rfl (.inl rfl) (pe_tup (pa_cons (pe_cc c__law_pick hr (by decide) (by rfl) (pa_cons (pv 0) (pa_cons (pe_lst (pa_cons pe_str (pa_cons pe_str pa_nil))) pa_nil))) (pa_cons (pe_ix ix_tup (pv 4) pe_int (fun _ _ => rfl)) pa_nil))))) pss_nil)
      (C8.pss_cut (ps_if (pt_cmpR op_eq (pv 6) pe_int (nomark _)) (pss_one (ps_set (i := 4) nd rfl (.inl rfl) (pe_tup (pa_cons (pe_cc c__law_pick hr (by decide) (by rfl) (pa_cons (pv 0) (pa_cons (pe_lst (pa_cons pe_str (pa_cons pe_str (pa_cons pe_str (pa_cons pe_str pa_nil))))) pa_nil))) (pa_cons (pe_ix ix_tup (pv 4) pe_int (fun _ _ => rfl)) (pa_cons (pv 5) pa_nil)))))) pss_nil)
      (C8.pss_cut (ps_if (pt_cmpR op_eq (pv 6) pe_int (nomark _)) (pss_one (ps_set (i := 4) nd rfl (.inl rfl) (pe_op op_catA (pe_tup (pa_cons (pe_ix ix_tup (pv 4) pe_int (fun _ _ => rfl)) (pa_cons (pv 5) pa_nil))) (pe_slice sl_tupA (pv 4) (po_some pe_int) po_none)))) pss_nil)
      (C8.pss_cut (ps_if (pt_cmpR op_eq (pv 6) pe_int (nomark _)) (pss_one (ps_set (i := 4) nd rfl (.inl rfl) (pe_tup (pa_cons (pe_cc c__law_pick hr (by decide) (by rfl) (pa_cons (pv 0) (pa_cons (pe_lst (pa_cons pe_str (pa_cons pe_str pa_nil))) pa_nil))) (pa_cons (pv 5) pa_nil))))) pss_nil)
      (pss_one (ps_ret (pe_op op_catA (pe_op op_catA (pe_slice sl_tupA (pv 1) po_none (po_some (pv 3))) (pe_tup (pa_cons (pv 4) pa_nil))) (pe_slice sl_tupA (pv 1) (po_some (pe_op op_add (pv 3) pe_int)) po_none))))))))))), ?_⟩
  obtain ⟨d, a, l, ds, ns, rfl, hd, hds, hnm, hl1, hl2, hld, hl, hns, hn1, hn2, q⟩ := h
  obtain ⟨vs0, hvs, hal⟩ := hds
  have hlen := hal.len
  refine ⟨_, rfl, _, rfl, _, _, rfl, .inr ⟨_, hvs, rfl⟩, d, _, rfl, hd, by omega, by omega, fun at_ H1 hat s1 d1 => ?_⟩
  have hatl : at_ < vs0.length := by omega
  obtain ⟨v0, hv0⟩ : ∃ v, vs0[at_]? = some v := ⟨_, List.getElem?_eq_getElem hatl⟩
  obtain ⟨m0, hm0, pd, rfl, hpd⟩ := hal.get hv0
  have hvs1 := (s1.kp hd).T hvs
  have hpd1 := (s1.kp hd).T hpd
  have hm0n := hnm m0 (List.mem_of_getElem? hm0)
  refine ⟨_, rfl, _, rfl, a, _, _, .ref pd, rfl, rfl, hvs1, atI_nat hv0, _, rfl, _, rfl, d, l, ns, rfl, d1, hld, s1.L hld hl, hn1, by omega, fun n H2 hn s2 d2 => ⟨_, _, rfl, ?_⟩⟩
  have s12 := s1.trans s2
  have hpd2 := (s2.kp d1).T hpd1
  have hnn := hns n hn
  refine ⟨_, rfl, d, 4, rfl, d2, by decide, by decide, fun r H3 hr s3 d3 => ?_⟩
  have s13 := s12.trans s3
  have hpd3 := (s3.kp d2).T hpd2
  have fin : ∀ (u : Option V), True := fun _ => trivial
  -- each of the four ways gives a move again
  have mid : ∀ (H4 : Hp) (p4 : Addr) (m4 : Mv Str), SameD d H3 H4 → Deck H4 d → SqT K H4 p4 (mvV m4) → NmMv m4 → ∃ (p : Addr) (m : Mv Str), some (V.ref p4) = some (.ref p) ∧ SameD d H3 H4 ∧ Deck H4 d ∧ SqT K H4 p (mvV m) ∧ NmMv m := fun H4 p4 m4 s d h n => ⟨p4, m4, rfl, s, d, h, n⟩
  have two : ∀ (H4 : Hp) (p : Addr) (w0 : Wrd) (x y : Str), needB w0 = false → SqT K H4 p [.str (wTxt w0), .str x] → SqT K H4 p (mvV ⟨w0, x, y⟩) := fun H4 p w0 x y hw h => by
    have : mvV ⟨w0, x, y⟩ = [V.str (wTxt w0), V.str x] := by unfold mvV mvS; rw [if_neg (by rw [hw]; decide)]; rfl
    rw [this]; exact h
  have three : ∀ (H4 : Hp) (p : Addr) (w0 : Wrd) (x y : Str), needB w0 = true → SqT K H4 p [.str (wTxt w0), .str x, .str y] → SqT K H4 p (mvV ⟨w0, x, y⟩) := fun H4 p w0 x y hw h => by
    have : mvV ⟨w0, x, y⟩ = [V.str (wTxt w0), V.str x, V.str y] := by unfold mvV mvS; rw [if_pos hw]; rfl
    rw [this]; exact h
  refine ⟨fun σ' H' => ∃ (p : Addr) (m : Mv Str), σ' = [some (.ref d), some (.ref a), some (.ref l), some (.int (at_ : Nat)), some (.ref p), some (.str n), some (.int (r : Nat))] ∧ SameD d H3 H' ∧ Deck H' d ∧ SqT K H' p (mvV m) ∧ NmMv m, ?_, ?_⟩
  · refine ⟨_, rfl, rfl, _, rfl, ifB (fun _ => ?_) (fun _ => ⟨pd, m0, rfl, SameD.refl _ _, d3, hpd3, hm0n⟩)⟩
    refine ⟨_, rfl, by show 2 ≤ sizeLine; decide, fun pw hpw => ?_⟩
    have hpwd := d3.ne hpw
    generalize hE_H4 : upd H3 pw _ = H4
    have e4 := (congrFun hE_H4 pw).symm.trans upd_same
    have n4 : ∀ q_, q_ ≠ pw → H4 q_ = H3 q_ := by subst hE_H4; exact fun q_ h => upd_ne h
    have s4 : Same H3 H4 := by subst hE_H4; exact same_new hpw
    clear hE_H4
    refine ⟨d, pw, ["front", "back"], rfl, d3.same s4, hpwd, .inl (.inl e4), by decide, by decide, fun ws H5 hws s5 d5 => ?_⟩
    have s35 := (SameD.of s4).trans s5
    have hpd5 := (s35.kp d3).T hpd3
    refine ⟨_, rfl, pd, _, _, _, rfl, rfl, hpd5, mv1 m0, by show 2 ≤ sizeLine; decide, fun pt hpt => ?_⟩
    generalize hE_H6 : upd H5 pt _ = H6
    have e6 := (congrFun hE_H6 pt).symm.trans upd_same
    have n6 : ∀ q_, q_ ≠ pt → H6 q_ = H5 q_ := by subst hE_H6; exact fun q_ h => upd_ne h
    have s6 : Same H5 H6 := by subst hE_H6; exact same_new hpt
    clear hE_H6
    obtain ⟨w0, hw0, rfl⟩ : ∃ w0, needB w0 = false ∧ wTxt w0 = ws := by
      rcases List.mem_cons.mp hws with e | h
      · exact ⟨.front, rfl, e.symm⟩
      · exact ⟨.back, rfl, (List.mem_singleton.mp h).symm⟩
    exact ⟨pt, ⟨w0, m0.a, m0.a⟩, rfl, s35.trans (SameD.of s6), d5.same s6, two H6 pt w0 m0.a m0.a hw0 (.inl (.inl e6)), hm0n.1, hm0n.1⟩
  rintro σ' H4 ⟨p4, m4, rfl, s4, d4, h4, n4⟩
  clear two three
  refine ⟨fun σ' H' => ∃ (p : Addr) (m : Mv Str), σ' = [some (.ref d), some (.ref a), some (.ref l), some (.int (at_ : Nat)), some (.ref p), some (.str n), some (.int (r : Nat))] ∧ SameD d H3 H' ∧ Deck H' d ∧ SqT K H' p (mvV m) ∧ NmMv m, ?_, ?_⟩
  · refine ⟨_, rfl, rfl, _, rfl, ifB (fun _ => ?_) (fun _ => ⟨p4, m4, rfl, s4, d4, h4, n4⟩)⟩
    refine ⟨_, rfl, by show 4 ≤ sizeLine; decide, fun pw hpw => ?_⟩
    have hpwd := d4.ne hpw
    generalize hE_H5 : upd H4 pw _ = H5
    have e5 := (congrFun hE_H5 pw).symm.trans upd_same
    have n5 : ∀ q_, q_ ≠ pw → H5 q_ = H4 q_ := by subst hE_H5; exact fun q_ h => upd_ne h
    have s5 : Same H4 H5 := by subst hE_H5; exact same_new hpw
    clear hE_H5
    refine ⟨d, pw, ["first", "last", "ahead", "behind"], rfl, d4.same s5, hpwd, .inl (.inl e5), by decide, by decide, fun ws H6 hws s6 d6 => ?_⟩
    have s46 := (SameD.of s5).trans s6
    have h6 := (s46.kp d4).T h4
    refine ⟨_, rfl, p4, _, _, _, rfl, rfl, h6, mv1 m4, _, rfl, by show 3 ≤ sizeLine; decide, fun pt hpt => ?_⟩
    generalize hE_H7 : upd H6 pt _ = H7
    have e7 := (congrFun hE_H7 pt).symm.trans upd_same
    have n7 : ∀ q_, q_ ≠ pt → H7 q_ = H6 q_ := by subst hE_H7; exact fun q_ h => upd_ne h
    have s7 : Same H6 H7 := by subst hE_H7; exact same_new hpt
    clear hE_H7
    obtain ⟨w0, hw0, rfl⟩ : ∃ w0, needB w0 = true ∧ wTxt w0 = ws := by
      simp only [List.mem_cons, List.not_mem_nil, or_false] at hws
      rcases hws with e | e | e | e
      · exact ⟨.first, rfl, e.symm⟩
      · exact ⟨.last, rfl, e.symm⟩
      · exact ⟨.ahead, rfl, e.symm⟩
      · exact ⟨.behind, rfl, e.symm⟩
    have e : mvV ⟨w0, m4.a, n⟩ = [V.str (wTxt w0), V.str m4.a, V.str n] := by unfold mvV mvS; rw [if_pos hw0]; rfl
    exact ⟨pt, ⟨w0, m4.a, n⟩, rfl, (s4.trans s46).trans (SameD.of s7), d6.same s7, by rw [e]; exact .inl (.inl e7), n4.1, hnn⟩
  clear h4 n4 s4 d4
  rintro σ' H4 ⟨p4, m4, rfl, s4, d4, h4, n4⟩
  refine ⟨fun σ' H' => ∃ (p : Addr) (m : Mv Str), σ' = [some (.ref d), some (.ref a), some (.ref l), some (.int (at_ : Nat)), some (.ref p), some (.str n), some (.int (r : Nat))] ∧ SameD d H3 H' ∧ Deck H' d ∧ SqT K H' p (mvV m) ∧ NmMv m, ?_, ?_⟩
  · refine ⟨_, rfl, rfl, _, rfl, ifB (fun _ => ?_) (fun _ => ⟨p4, m4, rfl, s4, d4, h4, n4⟩)⟩
    refine ⟨_, rfl, p4, _, _, _, rfl, rfl, h4, mv0 m4, _, rfl, by show 2 ≤ sizeLine; decide, fun pt hpt => ?_⟩
    generalize hE_H5 : upd H4 pt _ = H5
    have e5 := (congrFun hE_H5 pt).symm.trans upd_same
    have n5 : ∀ q_, q_ ≠ pt → H5 q_ = H4 q_ := by subst hE_H5; exact fun q_ h => upd_ne h
    have s5 : Same H4 H5 := by subst hE_H5; exact same_new hpt
    clear hE_H5
    have h5 := sameT s5 h4
    have e : mvV ⟨m4.w, n, m4.b⟩ = [V.str (wTxt m4.w), V.str n] ++ cutV (mvV m4) (some 2) none := by
      unfold mvV mvS
      by_cases hb : needB m4.w = true
      · rw [if_pos hb, if_pos hb]; rfl
      · rw [if_neg hb, if_neg hb]; rfl
    have hno : ¬ (HT.sIx (mvV m4).length 0 (some 2) = 0 ∧ HT.sIx (mvV m4).length (mvV m4).length none = (mvV m4).length) := fun z => absurd z.1 (by unfold mvV mvS; split <;> exact fun h => nomatch h)
    refine ⟨_, rfl, _, rfl, p4, _, rfl, h5, fun z => absurd z hno, fun _ p6 hp6 => ?_⟩
    generalize hE_H6 : upd H5 p6 _ = H6
    have e6 := (congrFun hE_H6 p6).symm.trans upd_same
    have n6 : ∀ q_, q_ ≠ p6 → H6 q_ = H5 q_ := by subst hE_H6; exact fun q_ h => upd_ne h
    have s6 : Same H5 H6 := by subst hE_H6; exact same_new hp6
    clear hE_H6
    have hcl := cutV_length (mvV m4) (some 2) none
    have hml : (mvV m4).length ≤ 3 := by rw [mv_len]; split <;> omega
    refine ⟨pt, p6, _, _, rfl, rfl, sameT s6 (.inl (.inl e5)), .inl (.inl e6), by rw [line]; show 2 + _ ≤ _; omega, (fun z => nomatch z), fun _ hz => ?_, fun _ _ p7 hp7 => ?_⟩
    · exact ⟨pt, ⟨m4.w, n, m4.b⟩, rfl, s4.trans (SameD.of (s5.trans s6)), d4.same (s5.trans s6), by rw [e, hz, List.append_nil]; exact sameT s6 (.inl (.inl e5)), hnn, n4.2⟩
    · generalize hE_H7 : upd H6 p7 _ = H7
      have e7 := (congrFun hE_H7 p7).symm.trans upd_same
      have n7 : ∀ q_, q_ ≠ p7 → H7 q_ = H6 q_ := by subst hE_H7; exact fun q_ h => upd_ne h
      have s7 : Same H6 H7 := by subst hE_H7; exact same_new hp7
      clear hE_H7
      exact ⟨p7, ⟨m4.w, n, m4.b⟩, rfl, s4.trans (SameD.of ((s5.trans s6).trans s7)), d4.same ((s5.trans s6).trans s7), by rw [e]; exact .inl (.inl e7), hnn, n4.2⟩
  clear h4 n4 s4 d4
  rintro σ' H4 ⟨p4, m4, rfl, s4, d4, h4, n4⟩
  refine ⟨fun σ' H' => ∃ (p : Addr) (m : Mv Str), σ' = [some (.ref d), some (.ref a), some (.ref l), some (.int (at_ : Nat)), some (.ref p), some (.str n), some (.int (r : Nat))] ∧ SameD d H3 H' ∧ Deck H' d ∧ SqT K H' p (mvV m) ∧ NmMv m, ?_, ?_⟩
  · refine ⟨_, rfl, rfl, _, rfl, ifB (fun _ => ?_) (fun _ => ⟨p4, m4, rfl, s4, d4, h4, n4⟩)⟩
    refine ⟨_, rfl, by show 2 ≤ sizeLine; decide, fun pw hpw => ?_⟩
    have hpwd := d4.ne hpw
    generalize hE_H5 : upd H4 pw _ = H5
    have e5 := (congrFun hE_H5 pw).symm.trans upd_same
    have n5 : ∀ q_, q_ ≠ pw → H5 q_ = H4 q_ := by subst hE_H5; exact fun q_ h => upd_ne h
    have s5 : Same H4 H5 := by subst hE_H5; exact same_new hpw
    clear hE_H5
    refine ⟨d, pw, ["front", "back"], rfl, d4.same s5, hpwd, .inl (.inl e5), by decide, by decide, fun ws H6 hws s6 d6 => ?_⟩
    have s46 := (SameD.of s5).trans s6
    refine ⟨_, rfl, by show 2 ≤ sizeLine; decide, fun pt hpt => ?_⟩
    generalize hE_H7 : upd H6 pt _ = H7
    have e7 := (congrFun hE_H7 pt).symm.trans upd_same
    have n7 : ∀ q_, q_ ≠ pt → H7 q_ = H6 q_ := by subst hE_H7; exact fun q_ h => upd_ne h
    have s7 : Same H6 H7 := by subst hE_H7; exact same_new hpt
    clear hE_H7
    obtain ⟨w0, hw0, rfl⟩ : ∃ w0, needB w0 = false ∧ wTxt w0 = ws := by
      rcases List.mem_cons.mp hws with e | h
      · exact ⟨.front, rfl, e.symm⟩
      · exact ⟨.back, rfl, (List.mem_singleton.mp h).symm⟩
    have e : mvV ⟨w0, n, n⟩ = [V.str (wTxt w0), V.str n] := by unfold mvV mvS; rw [if_neg (by rw [hw0]; decide)]; rfl
    exact ⟨pt, ⟨w0, n, n⟩, rfl, (s4.trans s46).trans (SameD.of s7), d6.same s7, by rw [e]; exact .inl (.inl e7), hnn, hnn⟩
  clear h4 n4 s4 d4
  rintro σ' H4 ⟨p4, m4, rfl, s4, d4, h4, n4⟩
  have s04 := s13.trans s4
  have kp4 := s04.kp hd
  have hvs4 := kp4.T hvs
  -- moves[:at] + (deed,) + moves[at + 1:]
  have c1 : cutV vs0 none (some ((at_ : Nat) : Int)) = vs0.take at_ := by
    unfold cutV
    rw [HT.sIx_nat, Nat.min_eq_left (by omega)]
    simp [HT.sIx]
  have c2 : cutV vs0 (some (((at_ : Nat) : Int) + 1)) none = vs0.drop (at_ + 1) := by
    unfold cutV
    rw [show ((at_ : Nat) : Int) + 1 = ((at_ + 1 : Nat) : Int) by omega, HT.sIx_nat, Nat.min_eq_left (by omega)]
    simp only [HT.sIx]
    rw [List.take_of_length_le (by simp)]
  have done : ∀ (H9 : Hp) (p9 : Addr), Same H4 H9 → SqT K H9 p9 (vs0.take at_ ++ [V.ref p4] ++ vs0.drop (at_ + 1)) → Q (.ref p9) H9 := fun H9 p9 s9 h9 => by
    refine q p9 H9 (ds.take at_ ++ [m4] ++ ds.drop (at_ + 1)) ⟨_, h9, ?_⟩ ?_ ?_ (s04.trans (SameD.of s9)) (d4.same s9)
    · have kk := kp4.trans (Kp.of s9)
      have hal9 : Al (MvAt K H9) vs0 ds := hal.mono fun _ _ ⟨p, e, q⟩ => ⟨p, e, kk.T q⟩
      exact (al_snoc_of (al_take at_ hal9) ⟨p4, rfl, sameT s9 h4⟩).app (al_drop (at_ + 1) hal9)
    · intro m hm
      rcases List.mem_append.mp hm with h | h
      · rcases List.mem_append.mp h with h | h
        · exact hnm m (List.mem_of_mem_take h)
        · rw [List.mem_singleton.mp h]; exact n4
      · exact hnm m (List.mem_of_mem_drop h)
    · rw [List.length_append, List.length_append, List.length_take, List.length_drop, List.length_singleton]; omega
  have tail : ∀ (H7 : Hp) (p7 : Addr), Same H4 H7 → SqT K H7 p7 (vs0.take at_ ++ [V.ref p4]) → tOp (rCatA K) (tC (.ref p7)) (tSl (rSlA K) (tVar 1) (tPart (tOp (rI0 fun i j => .int (i + j)) (tVar 3) (tC (.int 1)))) tNoPart) [some (.ref d), some (.ref a), some (.ref l), some (.int (at_ : Nat)), some (.ref p4), some (.str n), some (.int (r : Nat))] H7 Q := fun H7 p7 s7 h7 => by
    refine ⟨_, rfl, _, rfl, _, _, rfl, rfl, _, rfl, a, _, rfl, sameT s7 hvs4, fun z => ?_, fun _ p8 hp8 => ?_⟩
    · exfalso
      have := z.1
      rw [show ((at_ : Nat) : Int) + 1 = ((at_ + 1 : Nat) : Int) by omega, HT.sIx_nat] at this
      omega
    · generalize hE_H8 : upd H7 p8 _ = H8
      have e8 := (congrFun hE_H8 p8).symm.trans upd_same
      have n8 : ∀ q_, q_ ≠ p8 → H8 q_ = H7 q_ := by subst hE_H8; exact fun q_ h => upd_ne h
      have s8 : Same H7 H8 := by subst hE_H8; exact same_new hp8
      clear hE_H8
      have e8 : H8 p8 = some (.tup (cutV vs0 (some (((at_ : Nat) : Int) + 1)) none)) := e8
      rw [c2] at e8
      refine ⟨p7, p8, _, _, rfl, rfl, sameT s8 h7, .inl (.inl e8), ?_, fun z => ?_, fun _ hz => ?_, fun _ _ p9 hp9 => ?_⟩
      · rw [line, List.length_append, List.length_take, List.length_drop, List.length_singleton]; omega
      · exact absurd z (by simp)
      · refine done H8 p7 (s7.trans s8) ?_
        rw [hz, List.append_nil]; exact sameT s8 h7
      · generalize hE_H9 : upd H8 p9 _ = H9
        have e9 := (congrFun hE_H9 p9).symm.trans upd_same
        have n9 : ∀ q_, q_ ≠ p9 → H9 q_ = H8 q_ := by subst hE_H9; exact fun q_ h => upd_ne h
        have s9 : Same H8 H9 := by subst hE_H9; exact same_new hp9
        clear hE_H9
        exact done H9 p9 ((s7.trans s8).trans s9) (.inl (.inl e9))
  refine ⟨_, rfl, _, rfl, _, rfl, a, _, rfl, hvs4, fun z => ?_, fun _ p5 hp5 => ?_⟩
  · exfalso
    have := z.2
    rw [HT.sIx_nat] at this
    omega
  generalize hE_H5 : upd H4 p5 _ = H5
  have e5 := (congrFun hE_H5 p5).symm.trans upd_same
  have n5 : ∀ q_, q_ ≠ p5 → H5 q_ = H4 q_ := by subst hE_H5; exact fun q_ h => upd_ne h
  have s5 : Same H4 H5 := by subst hE_H5; exact same_new hp5
  clear hE_H5
  rw [c1] at e5
  refine ⟨_, rfl, by show 1 ≤ sizeLine; decide, fun p6 hp6 => ?_⟩
  generalize hE_H6 : upd H5 p6 _ = H6
  have e6 := (congrFun hE_H6 p6).symm.trans upd_same
  have n6 : ∀ q_, q_ ≠ p6 → H6 q_ = H5 q_ := by subst hE_H6; exact fun q_ h => upd_ne h
  have s6 : Same H5 H6 := by subst hE_H6; exact same_new hp6
  clear hE_H6
  refine ⟨p5, p6, _, _, rfl, rfl, sameT s6 (.inl (.inl e5)), .inl (.inl e6), ?_, fun z => ?_, fun _ z => (nomatch z), fun _ _ p7 hp7 => ?_⟩
  · rw [line, List.length_take]; show _ + 1 ≤ _; omega
  · exact tail H6 p6 (s5.trans s6) (by rw [z]; exact .inl (.inl e6))
  · generalize hE_H7 : upd H6 p7 _ = H7
    have e7 := (congrFun hE_H7 p7).symm.trans upd_same
    have n7 : ∀ q_, q_ ≠ p7 → H7 q_ = H6 q_ := by subst hE_H7; exact fun q_ h => upd_ne h
    have s7 : Same H6 H7 := by subst hE_H7; exact same_new hp7
    clear hE_H7
    exact tail H7 p7 ((s5.trans s6).trans s7) (.inl (.inl e7))
end
end K76
/-! text D6 -/
set_option Elab.async false
set_option linter.all false
set_option maxRecDepth 100000
set_option maxHeartbeats 1000000
namespace K76
open PySem PySem.Spec PyProof.Rows L2
theorem few_nm (R : Str → Bool) : ∀ (L dn : List (Str × Option Str)), (∀ z ∈ dn ++ L, IsNm z.1) → (∀ z ∈ L, ∀ q, z.2 = some q → IsNm q) → ∀ d ∈ few R dn L, NmMv d
  | [], _, _, _, d, h => nomatch h
  | (x, p) :: L, dn, h1, h2, d, h => by
    have hx : IsNm x := h1 (x, p) (List.mem_append_right _ List.mem_cons_self)
    rw [few] at h
    rcases List.mem_append.mp h with h | h
    · by_cases r : R x = true
      · rw [if_pos r] at h; cases h
      · rw [if_neg r, List.mem_singleton] at h
        subst h
        cases hk : (kidsL dn p).getLast? with
        | some c =>
          have hc : c ∈ kidsL dn p := List.mem_of_getLast? hk
          exact ⟨hx, h1 _ (List.mem_append_left _ (mem_kidsL.mp hc))⟩
        | none =>
          cases p with
          | none => exact ⟨hx, hx⟩
          | some q => exact ⟨hx, h2 (x, some q) List.mem_cons_self q rfl⟩
    · refine few_nm R L (dn ++ [(x, p)]) (fun z hz => h1 z ?_) (fun z hz => h2 z (List.mem_cons_of_mem _ hz)) d h
      rw [List.append_assoc] at hz
      exact hz
theorem fewL_nm {x y : Wd Str} (oy : WdOk y) : ∀ d ∈ fewL x y, NmMv d := by
  refine few_nm _ _ [] (fun z hz => oy.nm z.1 (par_nm (p := z.2) hz)) (fun z hz q hq => ?_)
  obtain ⟨n, p⟩ := z
  simp only at hq
  subst hq
  rcases prs_par y none n _ hz with e | ⟨m, hm, e⟩
  · cases e
  · cases e; exact oy.nm _ hm
theorem fewL_len {x y : Wd Str} (ox : WdOk x) (oy : WdOk y) (hp : (Wd.nms x).Perm (Wd.nms y)) : (fewL x y).length + (restN x y).length = (Wd.nms x).length := by
  have h := few_len (fun n => decide (n ∈ restN x y)) (Wd.prs none y) []
  have h2 : (((Wd.prs none y).map (·.1)).filter fun n => decide (n ∈ restN x y)).length = (restN x y).length := by
    rw [prs_nms]
    refine List.Perm.length_eq ((List.perm_ext_iff_of_nodup (List.Nodup.sublist List.filter_sublist oy.nd) (RN_nodup ox.nd)).mpr fun n => ?_)
    rw [List.mem_filter, decide_eq_true_eq]
    refine ⟨fun h => h.2, fun h => ⟨?_, h⟩⟩
    obtain ⟨p, f, _, _, h4⟩ := RN_mem h
    exact par_nm h4
  rw [h2, prs_len, ← hp.length_eq] at h
  exact h
theorem fewL_leads {x y : Wd Str} (ox : WdOk x) (oy : WdOk y) (hp : (Wd.nms x).Perm (Wd.nms y)) : mvAll (Wd.row x) (fewL x y) = some (Wd.row y) :=
  few_leads oy.nd ox.nd hp _ (rest_kids ox.nd oy.nd)
theorem few_back {x y : Wd Str} (ox : WdOk x) (oy : WdOk y) (hp : (Wd.nms x).Perm (Wd.nms y)) : (fewL y x).length = (fewL x y).length := by
  have h1 := fewL_len ox oy hp
  have h2 := fewL_len oy ox hp.symm
  have h3 := rest_len ox.nd oy.nd (fun n => hp.mem_iff)
  have h4 := hp.length_eq
  omega
theorem cut_last (vs : List V) : cutV vs none (some (-1)) = vs.dropLast := by
  unfold cutV
  have e : HT.sIx vs.length vs.length (some (-1)) = vs.length - 1 := by
    show (if (-1 : Int) < 0 then ((-1 : Int) + (vs.length : Int)).toNat else min (-1 : Int).toNat vs.length) = _
    rw [if_pos (by decide)]
    omega
  rw [e]
  simp [HT.sIx, List.dropLast_eq_take]
theorem al_init {α β : Type} {R : α → β → Prop} {as : List α} {bs : List β} (h : Al R as bs) : Al R as.dropLast bs.dropLast := by
  rw [List.dropLast_eq_take, List.dropLast_eq_take, h.len]
  exact al_take _ h
end K76
namespace K76
open PySem PySem.Spec PyProof.Rows L2
/-- t[lo:hi], the whole or a part -/
def rSlB (K : PySem.W.Frag) : V → Option Int → Option Int → Hp → VK → Prop := fun x lo hi H Q => ∃ a xs, x = .ref a ∧ SqT K H a xs ∧ ∀ p H2, Same H H2 → SqT K H2 p (cutV xs lo hi) → Q (.ref p) H2
theorem sl_tupB {X : Cx} : SlR X (rSlB X.K) := by
  intro pins s σ H x v vl vu lo hi sl Q I rx hs pl pu h
  obtain ⟨a, xs, rfl, hx, q⟩ := h
  refine sl_tupA pins s σ H (.ref a) v vl vu lo hi sl Q I rx hs pl pu ⟨a, xs, rfl, hx, fun w => q a H (Same.refl H) ?_, fun _ p hp => q p _ (same_new hp) (.inl (.inl upd_same))⟩
  have e : cutV xs lo hi = xs := by unfold cutV; rw [w.1, w.2]; simp
  rw [e]
  exact hx
end K76
/-! text W26 -/
set_option Elab.async false
set_option linter.all false
set_option maxRecDepth 100000
set_option maxHeartbeats 1000000
namespace K76
open PySem PySem.Spec PyProof.Rows L2
def spLaw (K : PySem.W.Frag) : Sp := fun vs H Q _ => ∃ (a : Addr) (ns : List Int), vs = [.ref a] ∧ SqL K H a (ns.map V.int) ∧ ns.length ≤ 1000 ∧ ∀ H', Q (.bl true) H'
section
variable {P : Program} {w : World} {K : PySem.W.Frag} {mg : Str → Option Value} {base : Heap}
theorem okF {x : Str} {i : Nat} {N ps : List Str} {k : Nat} {sp : Sp} {f : Addr} {fd : FuncData} (F : FunD K x x (defArgs (top i)) (defBody (top i)) (defScope (top i)) [] [] f fd) (S : FnScope N ps (defScope (top i))) (len : ∀ vs H Q E, sp vs H Q E → vs.length = ps.length)
    (hbody : ∀ (cdv : Value) (A : Around) (outer : List Env) (s : Shared) (H : Hp) (vs : List V) (Q : VK) (E : XK), Room k (A.deeper (envOfC x (defScope (top i)) s.heap.objs.size f cdv)) → sp vs H Q E →
      ∃ t, PSs (cxOf CX0 P w K mg base N x (defScope (top i)) f cdv A outer s H E).nox (defBody (top i)) t ∧ t { nx := fun _ H' => Q .non H', rt := Q } (start N vs) H) : FnOk P w K mg base CX0 (k + 1) f fd ps sp := by
  refine F.ok S len fun cdv A outer s H vs Q E hr h => ?_
  obtain ⟨t, h1, h2⟩ := hbody cdv A outer s H vs Q E hr h
  exact ⟨t, PSs.nox h1, h2⟩
abbrev N_law : List Str := ["_law_script", "_law_deck_here", "_law_one", "_law_other", "_law_moves", "_law_value", "_law_k", "_law_bent_here"]
theorem sc_law : FnScope N_law ["_law_script"] (defScope (top 68)) := ⟨rfl, rfl, rfl, by decide +kernel, rfl, by decide +kernel, by decide +kernel⟩
theorem ok_law (T : Tp K mg) {f : Addr} {fd : FuncData} (F : FunD K "law" "law" (defArgs (top 68)) (defBody (top 68)) (defScope (top 68)) [] [] f fd) (c__law_deck : Cal P w K mg base 1 "_law_deck" (spDeck K)) (c__law_two_woods : Cal P w K mg base 206 "_law_two_woods" (spTwo K)) (c_fewest : Cal P w K mg base 7 "fewest" (spFewest K)) (c_labels : Cal P w K mg base 6 "labels" (spLabels K)) (c__law_right_labels : Cal P w K mg base 4 "_law_right_labels" (spRightL K)) (c__law_leads : Cal P w K mg base 203 "_law_leads" (spLeads K)) (c__law_label_count : Cal P w K mg base 4 "_law_label_count" (spCount K)) (c__law_overs : Cal P w K mg base 2 "_law_overs" (spOvers K)) (c_least_moves : Cal P w K mg base 7 "least_moves" (spLeast K)) (c_lets_fewest : Cal P w K mg base 6 "lets_fewest" (spLets K)) (c__law_bent : Cal P w K mg base 3 "_law_bent" (spBent K)) : FnOk P w K mg base CX0 210 f fd ["_law_script"] (spLaw K) := by
  have nd := sc_law.nd
  refine okF F sc_law (fun vs H Q E h => by obtain ⟨a0, cells, rfl, hcells, hcl, q⟩ := h; rfl) (fun cdv A outer s H vs Q E hr h => ?_)
  have hu := hu_of hr
  refine ⟨_, (pss_cons (ps_set (i := 1) nd rfl (.inl rfl) (pe_cc c__law_deck hr (by decide) (by rfl) (pa_cons (pv 0) pa_nil)))
      (pss_cons (ps_asg (pe_cc c__law_two_woods hr (by decide) (by rfl) (pa_cons (pv 1) (pa_cons pe_int pa_nil))) (pg_lst rfl (pgs_cons (pg_name (i := 2) nd rfl (.inl rfl)) (pgs_cons (pg_name (i := 3) nd rfl (.inl rfl)) pgs_nil))))
      (pss_cons (ps_par (i := 4) (j := 5) rfl nd rfl rfl (by decide) rfl rfl (pa_cons (pe_cc c_fewest hr (by decide) (by rfl) (pa_cons (pv 2) (pa_cons (pv 3) pa_nil))) (pa_cons (pe_cc c_labels hr (by decide) (by rfl) (pa_cons (pv 2) (pa_cons (pv 3) pa_nil))) pa_nil)) (by rfl))
      (pss_cons (ps_if (PW.pt (pw_or (pt_not (pt_val (pe_cc c__law_leads hr (by decide) (by rfl) (pa_cons (pv 2) (pa_cons (pv 3) (pa_cons (pv 4) pa_nil)))))) (pw_or1 (pt_not (pt_val (pe_cc c__law_right_labels hr (by decide) (by rfl) (pa_cons (pv 2) (pa_cons (pv 3) (pa_cons (pv 5) pa_nil))))))))) (pss_one (ps_ret pe_bl)) pss_nil)
      (pss_cons (ps_if (pt_cmpR op_ne (pe_op op_add (pe_callB call_len (by rfl) T.b_len (by decide +kernel) (pa_cons (pv 4) pa_nil)) (pe_cc c__law_label_count hr (by decide) (by rfl) (pa_cons (pv 2) (pa_cons (pv 3) (pa_cons (pv 5) pa_nil))))) (pe_callB call_lenD (by rfl) T.b_len (by decide +kernel) (pa_cons (pe_cc c__law_overs hr (by decide) (by rfl) (pa_cons (pv 2) pa_nil)) pa_nil)) (nomark _)) (pss_one (ps_ret pe_bl)) pss_nil)
      (pss_cons (ps_if (PW.pt (pw_or (pt_cmpR op_notBl (pe_cc c_lets_fewest hr (by decide) (by rfl) (pa_cons (pv 2) (pa_cons (pv 3) (pa_cons (pv 4) (pa_cons (pv 5) pa_nil))))) pe_bl (nomark _)) (pw_or1 (pt_cmpR op_ne (pe_cc c_least_moves hr (by decide) (by rfl) (pa_cons (pv 2) (pa_cons (pv 3) pa_nil))) (pe_callB call_len (by rfl) T.b_len (by decide +kernel) (pa_cons (pv 4) pa_nil)) (nomark _))))) (pss_one (ps_ret pe_bl)) pss_nil)
      (pss_cons (ps_if (pt_cmpR op_ne (pe_callB call_repr_bl (by rfl) T.b_repr (by decide +kernel) (pa_cons (pe_cc c_lets_fewest hr (by decide) (by rfl) (pa_cons (pv 2) (pa_cons (pv 3) (pa_cons (pe_slice sl_tupB (pv 4) po_none (po_some (pe_un un_neg pe_int))) (pa_cons (pv 5) pa_nil))))) pa_nil)) (pe_callB call_repr_bl (by rfl) T.b_repr (by decide +kernel) (pa_cons (pe_cmpR (op_eq0 hr.units0) (pv 4) (pe_tup pa_nil) (nomark _)) pa_nil)) (nomark _)) (pss_one (ps_ret pe_bl)) pss_nil)
      (pss_cons (ps_for PassesOwn.never rfl (pi_range1 (by rfl) T.b_range (pa_cons (pe_op op_mul pe_int (pe_callTy call_int1 (by rfl) T.b_int (by decide +kernel) (pa_cons (pe_cmpR (op_ne0 hr.units0) (pv 4) (pe_tup pa_nil) (nomark _)) pa_nil))) pa_nil)) (pg_name (i := 6) nd rfl (.inl rfl)) (pss_cons (ps_set (i := 7) nd rfl (.inl rfl) (pe_cc c__law_bent hr (by decide) (by rfl) (pa_cons (pv 1) (pa_cons (pv 4) (pa_cons (pe_callTy (call_list_keys rfl) (by rfl) T.b_list (by decide +kernel) (pa_cons (pe_keysV (pe_cc c__law_overs hr (by decide) (by rfl) (pa_cons (pv 2) pa_nil))) pa_nil)) pa_nil)))))
      (pss_one (ps_if (pt_cmpR op_ne (pe_callB call_repr_bl (by rfl) T.b_repr (by decide +kernel) (pa_cons (pe_cc c_lets_fewest hr (by decide) (by rfl) (pa_cons (pv 2) (pa_cons (pv 3) (pa_cons (pv 7) (pa_cons (pv 5) pa_nil))))) pa_nil)) (pe_callB call_repr_bl (by rfl) T.b_repr (by decide +kernel) (pa_cons (pe_cc c__law_leads hr (by decide) (by rfl) (pa_cons (pv 2) (pa_cons (pv 3) (pa_cons (pv 7) pa_nil)))) pa_nil)) (nomark _)) (pss_one (ps_ret pe_bl)) pss_nil))))
      (pss_one (ps_ret (pe_cmpR op_eq (pe_callB call_len (by rfl) T.b_len (by decide +kernel) (pa_cons (pe_cc c_fewest hr (by decide) (by rfl) (pa_cons (pv 3) (pa_cons (pv 2) pa_nil))) pa_nil)) (pe_callB call_len (by rfl) T.b_len (by decide +kernel) (pa_cons (pv 4) pa_nil)) (nomark _)))))))))))), ?_⟩
  obtain ⟨a0, cells, rfl, hcells, hcl, q⟩ := h
  refine ⟨_, rfl, a0, cells, rfl, hcells, hcl, fun d H1 nd1 s1 dk1 => ?_⟩
  refine ⟨_, rfl, d, rfl, dk1, fun p2 H2 a b x y hp2 hpd hx hy ox oy hp s2 dk2 => ⟨p2, _, rfl, .inl (.inl hp2), rfl, _, _, rfl, _, _, rfl, rfl, ?_⟩⟩
  have hlx := ox.len
  have hN := fewL_len ox oy hp
  have hleads := fewL_leads ox oy hp
  have hnmF := fewL_nm (x := x) oy
  have hshF : ∀ m ∈ fewL x y, Shrt m := fun m hm => (hnmF m hm).shrt
  refine ⟨_, rfl, _, rfl, a, b, x, y, rfl, hx, hy, ox, oy, hp, fun pm H3 s3 hm => ?_⟩
  refine ⟨_, rfl, _, rfl, a, b, x, y, rfl, hx.same (Kp.of s3), hy.same (Kp.of s3), ox, oy, hp, fun pv H4 ys s4 hpm hso hval => ⟨_, _, rfl, ?_⟩⟩
  have hs : Srt x y ys := ⟨hpm, hso⟩
  have s34 := s3.trans s4
  have Xk : ∀ {H'}, Kp H4 H' → WoodAt K H' a x := fun s => hx.same ((Kp.of s34).trans s)
  have Yk : ∀ {H'}, Kp H4 H' → WoodAt K H' b y := fun s => hy.same ((Kp.of s34).trans s)
  have Mk : ∀ {H'}, Kp H4 H' → MvsAt K H' pm (fewL x y) := fun s => let ⟨vs, h1, h2⟩ := hm; ⟨vs, ((Kp.of s4).trans s).T h1, h2.mono fun _ _ ⟨p, e, q⟩ => ⟨p, e, ((Kp.of s4).trans s).T q⟩⟩
  have Vk : ∀ {H'}, Kp H4 H' → ValAt K H' pv (rightV x y ys) := fun s => hval.same s
  have X : ∀ {H'}, Same H4 H' → WoodAt K H' a x := fun s => Xk (Kp.of s)
  have Y : ∀ {H'}, Same H4 H' → WoodAt K H' b y := fun s => Yk (Kp.of s)
  have M : ∀ {H'}, Same H4 H' → MvsAt K H' pm (fewL x y) := fun s => Mk (Kp.of s)
  have Vl : ∀ {H'}, Same H4 H' → ValAt K H' pv (rightV x y ys) := fun s => Vk (Kp.of s)
  have dk4 : Deck H4 d := dk2.same s34
  have r0 := Same.refl H4
  refine ⟨_, rfl, _, rfl, _, rfl, a, b, pm, x, y, _, rfl, X r0, Y r0, ox, oy, M r0, hshF, fun H5 s5 => ⟨_, rfl, ?_⟩⟩
  refine ifE false (by rw [hleads]; simp) ⟨_, rfl, _, rfl, _, rfl, a, b, pv, x, y, ys, rfl, X s5, Y s5, ox, oy, hp, hs, Vl s5, fun H6 s6 => ⟨_, rfl, ifE false rfl ?_⟩⟩
  have s46 := s5.trans s6
  have hml : ∀ {H'}, Same H4 H' → ∃ us, SqT K H' pm us ∧ us.length = (fewL x y).length := fun s => let ⟨us, h1, h2⟩ := M s; ⟨us, h1, h2.len⟩
  obtain ⟨us6, hu6, hul6⟩ := hml s46
  refine ⟨_, rfl, _, us6.length, rfl, .inr ⟨_, hu6, rfl⟩, _, rfl, _, rfl, _, rfl, a, b, pv, x, y, ys, rfl, X s46, Y s46, ox, oy, hp, hs, Vl s46, fun H7 s7 => ⟨_, _, rfl, rfl, ?_⟩⟩
  have s47 := s46.trans s7
  refine ⟨_, rfl, a, x, rfl, X s47, ox, fun po H8 npo s8 hpo => ?_⟩
  have s48 := s47.trans s8
  obtain ⟨ov, os, ho1, ho2, ho3, ho4⟩ := hpo
  have hovl : ov.length = (Wd.nms x).length := by
    have h1 := congrArg List.length ho2
    rw [List.length_map, List.length_map] at h1
    rw [h1, ho3.length_eq]
  refine ⟨po, ov, rfl, ho1, rfl, _, rfl, ifE false ?_ ?_⟩
  · have e : V.int ((us6.length : Int) + ((restN x y).length : Int)) = V.int ((ov.length : Nat) : Int) := by congr 1; omega
    show (!decide (V.int ((us6.length : Int) + ((restN x y).length : Int)) = V.int ((ov.length : Nat) : Int))) = false
    rw [decide_eq_true e]; rfl
  -- lets_fewest lets both
  refine ⟨_, rfl, _, rfl, _, rfl, _, rfl, a, b, pm, pv, x, y, _, ys, rfl, X s48, Y s48, ox, oy, hp, M s48, hnmF, by omega, hs, Vl s48, fun H9 s9 => ?_⟩
  have s49 := s48.trans s9
  have hres : (decide (mvAll (Wd.row x) (fewL x y) = some (Wd.row y)) && decide ((Wd.nms x).length = (fewL x y).length + (restN x y).length)) = true := by rw [decide_eq_true hleads, decide_eq_true hN.symm]; rfl
  rw [hres]
  refine ⟨true, true, rfl, rfl, _, rfl, ?_⟩
  refine ⟨_, rfl, _, rfl, a, b, x, y, rfl, X s49, Y s49, ox, oy, hp, fun H10 s10 => ?_⟩
  have s410 := s49.trans s10
  obtain ⟨us10, hu10, hul10⟩ := hml s410
  refine ⟨_, rfl, _, us10.length, rfl, .inr ⟨_, hu10, rfl⟩, rfl, _, rfl, ifE false ?_ ?_⟩
  · have e : V.int (((Wd.nms x).length : Int) - ((restN x y).length : Int)) = V.int ((us10.length : Nat) : Int) := by congr 1; omega
    rw [decide_eq_true e]; rfl
  -- a row less one
  obtain ⟨us, hu, hual⟩ := M s410
  have hul : us.length = (fewL x y).length := hual.len
  have hinit : ∀ (Qn : VK) (p11 : Addr) (H11 : Hp), Same H10 H11 → SqT K H11 p11 us.dropLast → (∀ H12, Same H11 H12 → Qn (.bl (decide (fewL x y = []))) H12) → spLets K [.ref a, .ref b, .ref p11, .ref pv] H11 Qn E0 := fun Qn p11 H11 s11 h11 qn => by
    have s411 := s410.trans s11
    refine ⟨a, b, p11, pv, x, y, (fewL x y).dropLast, ys, rfl, X s411, Y s411, ox, oy, hp, ⟨_, h11, (al_init hual).mono fun _ _ ⟨p, e, h⟩ => ⟨p, e, sameT s11 h⟩⟩, fun m hm => hnmF m (List.dropLast_subset _ hm), by rw [List.length_dropLast]; omega, hs, Vl s411, ?_⟩
    have e : (decide (mvAll (Wd.row x) (fewL x y).dropLast = some (Wd.row y)) && decide ((Wd.nms x).length = (fewL x y).dropLast.length + (restN x y).length)) = decide (fewL x y = []) := by
      cases hf : fewL x y with
      | nil =>
        have h1 := hleads
        have h2 := hN
        rw [hf] at h1 h2
        rw [show ([] : List (Mv Str)).dropLast = [] from rfl, decide_eq_true h1, decide_eq_true h2.symm]
        rfl
      | cons m ms =>
        have h2 := hN
        rw [hf] at h2
        rw [List.length_cons] at h2
        rw [decide_eq_false (show ¬ ((Wd.nms x).length = (m :: ms).dropLast.length + (restN x y).length) by rw [List.length_dropLast, List.length_cons]; omega)]
        simp
    rw [e]
    exact fun H12 s12 => qn H12 s12
  have hemp : us.isEmpty = decide (fewL x y = []) := by
    cases hf : fewL x y with
    | nil => rw [hf] at hul; cases us with
      | nil => rfl
      | cons _ _ => cases hul
    | cons m ms => rw [hf] at hul; cases us with
      | nil => cases hul
      | cons _ _ => simp
  refine ⟨_, rfl, _, rfl, _, rfl, _, rfl, _, rfl, pm, _, rfl, hu, fun p11 H11 s11 h11 => ⟨_, rfl, hinit _ p11 H11 s11 (by rw [← cut_last]; exact h11) fun H12 s12 => ⟨_, rfl, ?_⟩⟩⟩
  have s1012 := s11.trans s12
  have hu12 := sameT s1012 hu
  refine ⟨_, rfl, by decide, fun pe hpe => ?_⟩
  generalize hE_H13 : upd H12 pe _ = H13
  have e13 := (congrFun hE_H13 pe).symm.trans upd_same
  have n13 : ∀ q_, q_ ≠ pe → H13 q_ = H12 q_ := by subst hE_H13; exact fun q_ h => upd_ne h
  have s13 : Same H12 H13 := by subst hE_H13; exact same_new hpe
  clear hE_H13
  have hu13 := sameT s13 hu12
  refine ⟨pm, pe, us, rfl, rfl, .inr ⟨hu13, .inl (.inl e13)⟩, _, rfl, rfl, _, rfl, ifE false (by rw [hemp]; simp) ?_⟩
  refine ⟨_, rfl, by decide, fun pe2 hpe2 => ?_⟩
  generalize hE_H14 : upd H13 pe2 _ = H14
  have e14 := (congrFun hE_H14 pe2).symm.trans upd_same
  have n14 : ∀ q_, q_ ≠ pe2 → H14 q_ = H13 q_ := by subst hE_H14; exact fun q_ h => upd_ne h
  have s14 : Same H13 H14 := by subst hE_H14; exact same_new hpe2
  clear hE_H14
  have hu14 := sameT s14 hu13
  have s414 := ((s410.trans s1012).trans s13).trans s14
  have dk14 : Deck H14 d := dk4.same s414
  refine ⟨pm, pe2, us, rfl, rfl, .inr ⟨hu14, .inl (.inl e14)⟩, .inr ⟨_, rfl, _, _, rfl, rfl, .inl ⟨by decide, by decide⟩, _, rfl, ?_, ?_, ?_⟩⟩
  · show -(2 ^ 62 : Int) ≤ 3 * (if (if true = true then !us.isEmpty else us.isEmpty) = true then 1 else 0)
    cases us.isEmpty <;> decide
  · show 3 * (if (if true = true then !us.isEmpty else us.isEmpty) = true then 1 else 0) < (2 ^ 62 : Int)
    cases us.isEmpty <;> decide
  generalize hnn : ((3 : Int) * (if (if true = true then !us.isEmpty else us.isEmpty) = true then 1 else 0)) = turns
  have hturn : ∀ i, i < turns.toNat → us.isEmpty = false := fun i hi => by
    cases hue : us.isEmpty with
    | false => rfl
    | true => rw [hue] at hnn; rw [← hnn] at hi; exact absurd hi (Nat.not_lt_zero _)
  refine for_it (walk_range (lo := 0) (n := turns.toNat)) (fun i σ' H' => ∃ (u6 u7 : Option V), σ' = [some (.ref a0), some (.ref d), some (.ref a), some (.ref b), some (.ref pm), some (.ref pv), u6, u7] ∧ SameD d H14 H' ∧ Deck H' d) ⟨_, _, rfl, SameD.refl _ _, dk14⟩ (fun _ _ _ _ _ => trivial) ?_ ?_
  · rintro i v σ' H15 H16 hi ⟨u6, u7, rfl, sm, dk⟩ ⟨rfl, rfl⟩
    have hne := hturn i hi
    have hf1 : 1 ≤ (fewL x y).length := by
      rw [← hul]
      cases us with
      | nil => cases hne
      | cons _ _ => simp
    have k16 : Kp H4 H16 := (Kp.of s414).trans (sm.kp dk14)
    refine ⟨_, rfl, _, rfl, _, rfl, a, x, rfl, Xk k16, ox, fun po H17 npo s17 hpo => ?_⟩
    obtain ⟨ov, os, ho1, ho2, ho3, ho4⟩ := hpo
    refine ⟨po, ov, rfl, ho1, fun v hv => ?_⟩
    generalize hE_H18 : upd H17 v _ = H18
    have e18 := (congrFun hE_H18 v).symm.trans upd_same
    have n18 : ∀ q_, q_ ≠ v → H18 q_ = H17 q_ := by subst hE_H18; exact fun q_ h => upd_ne h
    have s18 : Same H17 H18 := by subst hE_H18; exact same_new hv
    clear hE_H18
    refine ⟨v, po, ov, rfl, e18, s18 _ _ ho1, fun l hl => ?_⟩
    have s1618 := s17.trans s18
    have hld := (dk.same s1618).ne hl
    generalize hE_H19 : upd H18 l _ = H19
    have e19 := (congrFun hE_H19 l).symm.trans upd_same
    have n19 : ∀ q_, q_ ≠ l → H19 q_ = H18 q_ := by subst hE_H19; exact fun q_ h => upd_ne h
    have s19 : Same H18 H19 := by subst hE_H19; exact same_new hl
    clear hE_H19
    have hkeys : (ov.map fun kv => kV kv.1) = os.map V.str := by
      rw [show (ov.map fun kv => kV kv.1) = (ov.map (·.1)).map kV by rw [List.map_map]; rfl, ho2, List.map_map]
      rfl
    rw [hkeys] at e19
    have s1619 := s1618.trans s19
    have k19 := k16.trans (Kp.of s1619)
    have hosl := ho3.length_eq
    refine ⟨d, pm, l, fewL x y, os, rfl, dk.same s1619, Mk k19, hnmF, hf1, by omega, hld, .inl (.inl e19), fun n hn => ox.nm n (ho3.subset hn), by omega, by omega, fun pb H20 ds' hb hnm' hlen' s20 dk20 => ?_⟩
    have k20 := k19.trans (s20.kp (dk.same s1619))
    refine ⟨_, rfl, _, rfl, _, rfl, _, rfl, a, b, pb, pv, x, y, ds', ys, rfl, Xk k20, Yk k20, ox, oy, hp, hb, hnm', by omega, hs, Vk k20, fun H21 s21 => ⟨_, rfl, ?_⟩⟩
    have k21 := k20.trans (Kp.of s21)
    refine ⟨_, rfl, _, rfl, _, rfl, a, b, pb, x, y, ds', rfl, Xk k21, Yk k21, ox, oy, hb.same s21, fun m hm => (hnm' m hm).shrt, fun H22 s22 => ⟨_, rfl, rfl, _, rfl, ifE false ?_ ?_⟩⟩
    · have e : decide ((Wd.nms x).length = ds'.length + (restN x y).length) = true := decide_eq_true (by omega)
      rw [e, Bool.and_true]
      simp
    · exact ⟨_, _, rfl, (sm.trans (SameD.of s1619)).trans (s20.trans (SameD.of (s21.trans s22))), dk20.same (s21.trans s22)⟩
  · rintro σ' H15 ⟨u6, u7, rfl, sm, dk⟩
    have k15 : Kp H4 H15 := (Kp.of s414).trans (sm.kp dk14)
    refine ⟨_, rfl, _, rfl, b, a, y, x, rfl, Yk k15, Xk k15, oy, ox, hp.symm, fun pf H16 s16 hmf => ?_⟩
    obtain ⟨vf, hvf, hvfa⟩ := hmf
    refine ⟨_, _, rfl, .inr ⟨_, hvf, rfl⟩, _, rfl, _, us.length, rfl, .inr ⟨_, ((Kp.of ((s1012.trans s13).trans s14)).trans ((sm.kp dk14).trans (Kp.of s16))).T hu, rfl⟩, rfl, ?_⟩
    · have e : V.int ((vf.length : Nat) : Int) = V.int ((us.length : Nat) : Int) := by rw [hvfa.len, hul, few_back ox oy hp]
      rw [decide_eq_true e]
      exact q H16
end
end K76
/-! text K76Head -/
set_option Elab.async false
set_option linter.all false
set_option maxRecDepth 100000
set_option maxHeartbeats 0
namespace K76H
open PySem PySem.Spec PyProof.Rows L2

def dd (n : Str) (s : Stmt) : He.DefD := ⟨(n, none), n, n, defArgs s, defBody s, defScope s, [], []⟩

def fn0 : List He.DefD := [dd "begin_of" (K76.top 4), dd "end_of" (K76.top 5), dd "span" (K76.top 6), dd "is_there" (K76.top 7), dd "is_within" (K76.top 8), dd "old_of" (K76.top 9), dd "new_of" (K76.top 10), dd "stop_of" (K76.top 11), dd "moved" (K76.top 12), dd "swapped" (K76.top 13), dd "turned" (K76.top 14), dd "poured" (K76.top 15), dd "done" (K76.top 16), dd "done_all" (K76.top 17), dd "is_name" (K76.top 24), dd "row_of" (K76.top 25), dd "names_of" (K76.top 26), dd "all_parents" (K76.top 27), dd "deed_error" (K76.top 29), dd "require_alike" (K76.top 31)]
def fn1 : List He.DefD := [dd "staying" (K76.top 32), dd "places" (K76.top 33), dd "lengths" (K76.top 34), dd "labels" (K76.top 35), dd "resting" (K76.top 36), dd "least_moves" (K76.top 37), dd "fewest" (K76.top 38), dd "are_pairs" (K76.top 39), dd "are_right" (K76.top 40), dd "lets_fewest" (K76.top 41), dd "_law_deck" (K76.top 43), dd "_law_wood_of" (K76.top 44), dd "_law_draw" (K76.top 45), dd "_law_wood" (K76.top 46), dd "_law_tall_wood" (K76.top 47), dd "_law_name" (K76.top 48), dd "_law_names" (K76.top 49), dd "_law_wood_and_names" (K76.top 50), dd "_law_some_wood" (K76.top 51), dd "_law_kids" (K76.top 52)]
def fn2 : List He.DefD := [dd "_law_row_moved" (K76.top 53), dd "_law_row" (K76.top 54), dd "_law_from_row" (K76.top 55), dd "_law_pick" (K76.top 56), dd "_law_mixed_kids" (K76.top 57), dd "_law_moved_some" (K76.top 58), dd "_law_two_woods" (K76.top 59), dd "_law_is_move" (K76.top 60), dd "_law_leads" (K76.top 61), dd "_law_overs" (K76.top 62), dd "_law_staying" (K76.top 63), dd "_law_is_turned" (K76.top 64), dd "_law_right_labels" (K76.top 65), dd "_law_label_count" (K76.top 66), dd "_law_bent" (K76.top 67), dd "law" (K76.top 68)]
def fn : List He.DefD := fn0 ++ fn1 ++ fn2
def fa0 : List He.Fa := [.glo "begin_of", .glo "end_of", .glo "span", .glo "is_there", .glo "is_within", .glo "old_of", .glo "new_of", .glo "stop_of", .glo "moved", .glo "swapped", .glo "turned", .glo "poured", .glo "done", .glo "done_all", .glo "is_name", .glo "row_of", .glo "names_of", .glo "all_parents", .glo "deed_error", .glo "require_alike", .glo "staying", .glo "places", .glo "lengths", .glo "labels", .glo "resting", .glo "least_moves", .glo "fewest", .glo "are_pairs", .glo "are_right", .glo "lets_fewest"]
def fa1 : List He.Fa := [.glo "_law_deck", .glo "_law_wood_of", .glo "_law_draw", .glo "_law_wood", .glo "_law_tall_wood", .glo "_law_name", .glo "_law_names", .glo "_law_wood_and_names", .glo "_law_some_wood", .glo "_law_kids", .glo "_law_row_moved", .glo "_law_row", .glo "_law_from_row", .glo "_law_pick", .glo "_law_mixed_kids", .glo "_law_moved_some", .glo "_law_two_woods", .glo "_law_is_move", .glo "_law_leads", .glo "_law_overs", .glo "_law_staying", .glo "_law_is_turned", .glo "_law_right_labels", .glo "_law_label_count", .glo "_law_bent", .glo "law"]
def fb : List He.Fa := [.free "len", .free "all", .free "any", .free "enumerate", .free "tuple", .free "list", .free "isinstance", .free "str", .free "int", .free "bool", .free "set", .free "dict", .free "sorted", .free "abs", .free "range", .free "max", .free "repr", .str "LETTERS" "abcdefghijklmnopqrstuvwxyz", .int "MAX_LETTERS" 8, .glo "MOVES", .glo "WORDS", .glo "SINGLE"]
def fa : List He.Fa := fa0 ++ fa1 ++ fb
def nm0 : List PySem.Str := ["MOVES", "WORDS", "SINGLE", "begin_of", "end_of", "span", "is_there", "is_within", "old_of", "new_of", "stop_of", "moved", "swapped", "turned", "poured", "done", "done_all", "TwigError", "Unlike", "LETTERS", "MAX_LETTERS", "is_name", "row_of", "names_of", "all_parents", "deed_error", "require_alike", "staying", "places", "lengths"]
def nm1 : List PySem.Str := ["labels", "resting", "least_moves", "fewest", "are_pairs", "are_right", "lets_fewest", "_law_deck", "_law_wood_of", "_law_draw", "_law_wood", "_law_tall_wood", "_law_name", "_law_names", "_law_wood_and_names", "_law_some_wood", "_law_kids", "_law_row_moved", "_law_row", "_law_from_row", "_law_pick", "_law_mixed_kids", "_law_moved_some", "_law_two_woods", "_law_is_move", "_law_leads", "_law_overs", "_law_staying", "_law_is_turned", "_law_right_labels"]
def nm2 : List PySem.Str := ["_law_label_count", "_law_bent"]
def nm : List PySem.Str := nm0 ++ nm1 ++ nm2
def ex (K : PySem.W.Frag) : Bool := He.tupB K "MOVES" [.str "first", .str "last", .str "ahead", .str "behind", .str "front", .str "back"] && He.tupB K "WORDS" [.str "first", .str "last", .str "ahead", .str "behind", .str "front", .str "back", .str "swap", .str "turn", .str "lift", .str "cut", .str "pour", .str "wrap", .str "put"] && He.tupB K "SINGLE" [.str "front", .str "back", .str "lift", .str "cut"]
abbrev R : PySem.W.OpenRow := PySem.W.OpenLaw.row PySem.Challenge.rw_twigscripts_k76_whole_fewest_moves
abbrev hk : PySem.W.Hook := He.hookX 4 fa fn [] [] ex
def ob (s : PySem.W.SharedT) : He.AlX := He.obsX 4 fa fn [] [] ex (HandSHeadRun.getT s)
theorem ob_eq (s : PySem.W.SharedT) : ob s = hk.obs s.abs := He.obsX_eq (HandSHeadRun.getT_eq s)
theorem run (w : World) : HandSHeadRun.RunEq R (PySem.W.view R.prog [68]) hk ob 4000 nm w := by
  intro os
  kernel_rfl
end K76H
/-! text Join -/
set_option Elab.async false
set_option linter.all false
set_option maxRecDepth 100000
set_option maxHeartbeats 0
namespace K76H
open PySem PySem.Spec PyProof.Rows L2
section
variable {w : World} {K : PySem.W.Frag} {h : Heap} {mg : Str → Option Value}
theorem tp (X : K.In h) (G : h.Ns mainGlobals mg) (c : He.SaysX fa fn [] [] ex w h K) : K76.Tp K mg := by
  have ex1 : (He.tupB K "MOVES" _ && He.tupB K "WORDS" _ && He.tupB K "SINGLE" _) = true := c.more
  rw [Bool.and_eq_true, Bool.and_eq_true] at ex1
  obtain ⟨⟨x1, x2⟩, x3⟩ := ex1
  have d := c.t.d
  refine ⟨He.free_ok X G (d.fact 56 (f := .free "len") rfl), He.free_ok X G (d.fact 57 (f := .free "all") rfl), He.free_ok X G (d.fact 58 (f := .free "any") rfl), He.free_ok X G (d.fact 59 (f := .free "enumerate") rfl), He.free_ok X G (d.fact 60 (f := .free "tuple") rfl), He.free_ok X G (d.fact 61 (f := .free "list") rfl), He.free_ok X G (d.fact 62 (f := .free "isinstance") rfl), He.free_ok X G (d.fact 63 (f := .free "str") rfl), He.free_ok X G (d.fact 64 (f := .free "int") rfl), He.free_ok X G (d.fact 65 (f := .free "bool") rfl), He.free_ok X G (d.fact 66 (f := .free "set") rfl), He.free_ok X G (d.fact 67 (f := .free "dict") rfl), He.free_ok X G (d.fact 68 (f := .free "sorted") rfl), He.free_ok X G (d.fact 69 (f := .free "abs") rfl), He.free_ok X G (d.fact 70 (f := .free "range") rfl), He.free_ok X G (d.fact 71 (f := .free "max") rfl), He.free_ok X G (d.fact 72 (f := .free "repr") rfl), ?_, ?_, ?_, ?_, ?_⟩
  · obtain ⟨t, e⟩ := He.str_ok X G (d.fact 73 (f := .str "LETTERS" "abcdefghijklmnopqrstuvwxyz") rfl)
    exact ⟨_, e, t, rfl⟩
  · obtain ⟨t, e⟩ := He.int_ok X G (d.fact 74 (f := .int "MAX_LETTERS" 8) rfl)
    exact ⟨_, e, t, rfl⟩
  · exact ⟨_, He.glo_ok X G (d.fact 75 (f := .glo "MOVES") rfl), fun H => He.tupB_ok x1 H⟩
  · exact ⟨_, He.glo_ok X G (d.fact 76 (f := .glo "WORDS") rfl), fun H => He.tupB_ok x2 H⟩
  · exact ⟨_, He.glo_ok X G (d.fact 77 (f := .glo "SINGLE") rfl), fun H => He.tupB_ok x3 H⟩
theorem f_begin_of (X : K.In h) (G : h.Ns mainGlobals mg) (c : He.SaysX fa fn [] [] ex w h K) : K76.Fnn K mg "begin_of" 4 := by
  obtain ⟨fd, F⟩ := c.t.d.def_ 0 (d := dd "begin_of" (K76.top 4)) rfl
  exact ⟨_, fd, F, He.glo_ok X G (c.t.d.fact 0 (f := .glo "begin_of") rfl)⟩
theorem f_end_of (X : K.In h) (G : h.Ns mainGlobals mg) (c : He.SaysX fa fn [] [] ex w h K) : K76.Fnn K mg "end_of" 5 := by
  obtain ⟨fd, F⟩ := c.t.d.def_ 1 (d := dd "end_of" (K76.top 5)) rfl
  exact ⟨_, fd, F, He.glo_ok X G (c.t.d.fact 1 (f := .glo "end_of") rfl)⟩
theorem f_span (X : K.In h) (G : h.Ns mainGlobals mg) (c : He.SaysX fa fn [] [] ex w h K) : K76.Fnn K mg "span" 6 := by
  obtain ⟨fd, F⟩ := c.t.d.def_ 2 (d := dd "span" (K76.top 6)) rfl
  exact ⟨_, fd, F, He.glo_ok X G (c.t.d.fact 2 (f := .glo "span") rfl)⟩
theorem f_is_there (X : K.In h) (G : h.Ns mainGlobals mg) (c : He.SaysX fa fn [] [] ex w h K) : K76.Fnn K mg "is_there" 7 := by
  obtain ⟨fd, F⟩ := c.t.d.def_ 3 (d := dd "is_there" (K76.top 7)) rfl
  exact ⟨_, fd, F, He.glo_ok X G (c.t.d.fact 3 (f := .glo "is_there") rfl)⟩
theorem f_is_within (X : K.In h) (G : h.Ns mainGlobals mg) (c : He.SaysX fa fn [] [] ex w h K) : K76.Fnn K mg "is_within" 8 := by
  obtain ⟨fd, F⟩ := c.t.d.def_ 4 (d := dd "is_within" (K76.top 8)) rfl
  exact ⟨_, fd, F, He.glo_ok X G (c.t.d.fact 4 (f := .glo "is_within") rfl)⟩
theorem f_old_of (X : K.In h) (G : h.Ns mainGlobals mg) (c : He.SaysX fa fn [] [] ex w h K) : K76.Fnn K mg "old_of" 9 := by
  obtain ⟨fd, F⟩ := c.t.d.def_ 5 (d := dd "old_of" (K76.top 9)) rfl
  exact ⟨_, fd, F, He.glo_ok X G (c.t.d.fact 5 (f := .glo "old_of") rfl)⟩
theorem f_new_of (X : K.In h) (G : h.Ns mainGlobals mg) (c : He.SaysX fa fn [] [] ex w h K) : K76.Fnn K mg "new_of" 10 := by
  obtain ⟨fd, F⟩ := c.t.d.def_ 6 (d := dd "new_of" (K76.top 10)) rfl
  exact ⟨_, fd, F, He.glo_ok X G (c.t.d.fact 6 (f := .glo "new_of") rfl)⟩
theorem f_stop_of (X : K.In h) (G : h.Ns mainGlobals mg) (c : He.SaysX fa fn [] [] ex w h K) : K76.Fnn K mg "stop_of" 11 := by
  obtain ⟨fd, F⟩ := c.t.d.def_ 7 (d := dd "stop_of" (K76.top 11)) rfl
  exact ⟨_, fd, F, He.glo_ok X G (c.t.d.fact 7 (f := .glo "stop_of") rfl)⟩
theorem f_moved (X : K.In h) (G : h.Ns mainGlobals mg) (c : He.SaysX fa fn [] [] ex w h K) : K76.Fnn K mg "moved" 12 := by
  obtain ⟨fd, F⟩ := c.t.d.def_ 8 (d := dd "moved" (K76.top 12)) rfl
  exact ⟨_, fd, F, He.glo_ok X G (c.t.d.fact 8 (f := .glo "moved") rfl)⟩
theorem f_done (X : K.In h) (G : h.Ns mainGlobals mg) (c : He.SaysX fa fn [] [] ex w h K) : K76.Fnn K mg "done" 16 := by
  obtain ⟨fd, F⟩ := c.t.d.def_ 12 (d := dd "done" (K76.top 16)) rfl
  exact ⟨_, fd, F, He.glo_ok X G (c.t.d.fact 12 (f := .glo "done") rfl)⟩
theorem f_done_all (X : K.In h) (G : h.Ns mainGlobals mg) (c : He.SaysX fa fn [] [] ex w h K) : K76.Fnn K mg "done_all" 17 := by
  obtain ⟨fd, F⟩ := c.t.d.def_ 13 (d := dd "done_all" (K76.top 17)) rfl
  exact ⟨_, fd, F, He.glo_ok X G (c.t.d.fact 13 (f := .glo "done_all") rfl)⟩
theorem f_is_name (X : K.In h) (G : h.Ns mainGlobals mg) (c : He.SaysX fa fn [] [] ex w h K) : K76.Fnn K mg "is_name" 24 := by
  obtain ⟨fd, F⟩ := c.t.d.def_ 14 (d := dd "is_name" (K76.top 24)) rfl
  exact ⟨_, fd, F, He.glo_ok X G (c.t.d.fact 14 (f := .glo "is_name") rfl)⟩
theorem f_row_of (X : K.In h) (G : h.Ns mainGlobals mg) (c : He.SaysX fa fn [] [] ex w h K) : K76.Fnn K mg "row_of" 25 := by
  obtain ⟨fd, F⟩ := c.t.d.def_ 15 (d := dd "row_of" (K76.top 25)) rfl
  exact ⟨_, fd, F, He.glo_ok X G (c.t.d.fact 15 (f := .glo "row_of") rfl)⟩
theorem f_names_of (X : K.In h) (G : h.Ns mainGlobals mg) (c : He.SaysX fa fn [] [] ex w h K) : K76.Fnn K mg "names_of" 26 := by
  obtain ⟨fd, F⟩ := c.t.d.def_ 16 (d := dd "names_of" (K76.top 26)) rfl
  exact ⟨_, fd, F, He.glo_ok X G (c.t.d.fact 16 (f := .glo "names_of") rfl)⟩
theorem f_all_parents (X : K.In h) (G : h.Ns mainGlobals mg) (c : He.SaysX fa fn [] [] ex w h K) : K76.Fnn K mg "all_parents" 27 := by
  obtain ⟨fd, F⟩ := c.t.d.def_ 17 (d := dd "all_parents" (K76.top 27)) rfl
  exact ⟨_, fd, F, He.glo_ok X G (c.t.d.fact 17 (f := .glo "all_parents") rfl)⟩
theorem f_deed_error (X : K.In h) (G : h.Ns mainGlobals mg) (c : He.SaysX fa fn [] [] ex w h K) : K76.Fnn K mg "deed_error" 29 := by
  obtain ⟨fd, F⟩ := c.t.d.def_ 18 (d := dd "deed_error" (K76.top 29)) rfl
  exact ⟨_, fd, F, He.glo_ok X G (c.t.d.fact 18 (f := .glo "deed_error") rfl)⟩
theorem f_require_alike (X : K.In h) (G : h.Ns mainGlobals mg) (c : He.SaysX fa fn [] [] ex w h K) : K76.Fnn K mg "require_alike" 31 := by
  obtain ⟨fd, F⟩ := c.t.d.def_ 19 (d := dd "require_alike" (K76.top 31)) rfl
  exact ⟨_, fd, F, He.glo_ok X G (c.t.d.fact 19 (f := .glo "require_alike") rfl)⟩
theorem f_staying (X : K.In h) (G : h.Ns mainGlobals mg) (c : He.SaysX fa fn [] [] ex w h K) : K76.Fnn K mg "staying" 32 := by
  obtain ⟨fd, F⟩ := c.t.d.def_ 20 (d := dd "staying" (K76.top 32)) rfl
  exact ⟨_, fd, F, He.glo_ok X G (c.t.d.fact 20 (f := .glo "staying") rfl)⟩
theorem f_places (X : K.In h) (G : h.Ns mainGlobals mg) (c : He.SaysX fa fn [] [] ex w h K) : K76.Fnn K mg "places" 33 := by
  obtain ⟨fd, F⟩ := c.t.d.def_ 21 (d := dd "places" (K76.top 33)) rfl
  exact ⟨_, fd, F, He.glo_ok X G (c.t.d.fact 21 (f := .glo "places") rfl)⟩
theorem f_lengths (X : K.In h) (G : h.Ns mainGlobals mg) (c : He.SaysX fa fn [] [] ex w h K) : K76.Fnn K mg "lengths" 34 := by
  obtain ⟨fd, F⟩ := c.t.d.def_ 22 (d := dd "lengths" (K76.top 34)) rfl
  exact ⟨_, fd, F, He.glo_ok X G (c.t.d.fact 22 (f := .glo "lengths") rfl)⟩
theorem f_labels (X : K.In h) (G : h.Ns mainGlobals mg) (c : He.SaysX fa fn [] [] ex w h K) : K76.Fnn K mg "labels" 35 := by
  obtain ⟨fd, F⟩ := c.t.d.def_ 23 (d := dd "labels" (K76.top 35)) rfl
  exact ⟨_, fd, F, He.glo_ok X G (c.t.d.fact 23 (f := .glo "labels") rfl)⟩
theorem f_resting (X : K.In h) (G : h.Ns mainGlobals mg) (c : He.SaysX fa fn [] [] ex w h K) : K76.Fnn K mg "resting" 36 := by
  obtain ⟨fd, F⟩ := c.t.d.def_ 24 (d := dd "resting" (K76.top 36)) rfl
  exact ⟨_, fd, F, He.glo_ok X G (c.t.d.fact 24 (f := .glo "resting") rfl)⟩
theorem f_least_moves (X : K.In h) (G : h.Ns mainGlobals mg) (c : He.SaysX fa fn [] [] ex w h K) : K76.Fnn K mg "least_moves" 37 := by
  obtain ⟨fd, F⟩ := c.t.d.def_ 25 (d := dd "least_moves" (K76.top 37)) rfl
  exact ⟨_, fd, F, He.glo_ok X G (c.t.d.fact 25 (f := .glo "least_moves") rfl)⟩
theorem f_fewest (X : K.In h) (G : h.Ns mainGlobals mg) (c : He.SaysX fa fn [] [] ex w h K) : K76.Fnn K mg "fewest" 38 := by
  obtain ⟨fd, F⟩ := c.t.d.def_ 26 (d := dd "fewest" (K76.top 38)) rfl
  exact ⟨_, fd, F, He.glo_ok X G (c.t.d.fact 26 (f := .glo "fewest") rfl)⟩
theorem f_are_pairs (X : K.In h) (G : h.Ns mainGlobals mg) (c : He.SaysX fa fn [] [] ex w h K) : K76.Fnn K mg "are_pairs" 39 := by
  obtain ⟨fd, F⟩ := c.t.d.def_ 27 (d := dd "are_pairs" (K76.top 39)) rfl
  exact ⟨_, fd, F, He.glo_ok X G (c.t.d.fact 27 (f := .glo "are_pairs") rfl)⟩
theorem f_are_right (X : K.In h) (G : h.Ns mainGlobals mg) (c : He.SaysX fa fn [] [] ex w h K) : K76.Fnn K mg "are_right" 40 := by
  obtain ⟨fd, F⟩ := c.t.d.def_ 28 (d := dd "are_right" (K76.top 40)) rfl
  exact ⟨_, fd, F, He.glo_ok X G (c.t.d.fact 28 (f := .glo "are_right") rfl)⟩
theorem f_lets_fewest (X : K.In h) (G : h.Ns mainGlobals mg) (c : He.SaysX fa fn [] [] ex w h K) : K76.Fnn K mg "lets_fewest" 41 := by
  obtain ⟨fd, F⟩ := c.t.d.def_ 29 (d := dd "lets_fewest" (K76.top 41)) rfl
  exact ⟨_, fd, F, He.glo_ok X G (c.t.d.fact 29 (f := .glo "lets_fewest") rfl)⟩
theorem f__law_deck (X : K.In h) (G : h.Ns mainGlobals mg) (c : He.SaysX fa fn [] [] ex w h K) : K76.Fnn K mg "_law_deck" 43 := by
  obtain ⟨fd, F⟩ := c.t.d.def_ 30 (d := dd "_law_deck" (K76.top 43)) rfl
  exact ⟨_, fd, F, He.glo_ok X G (c.t.d.fact 30 (f := .glo "_law_deck") rfl)⟩
theorem f__law_draw (X : K.In h) (G : h.Ns mainGlobals mg) (c : He.SaysX fa fn [] [] ex w h K) : K76.Fnn K mg "_law_draw" 45 := by
  obtain ⟨fd, F⟩ := c.t.d.def_ 32 (d := dd "_law_draw" (K76.top 45)) rfl
  exact ⟨_, fd, F, He.glo_ok X G (c.t.d.fact 32 (f := .glo "_law_draw") rfl)⟩
theorem f__law_pick (X : K.In h) (G : h.Ns mainGlobals mg) (c : He.SaysX fa fn [] [] ex w h K) : K76.Fnn K mg "_law_pick" 56 := by
  obtain ⟨fd, F⟩ := c.t.d.def_ 43 (d := dd "_law_pick" (K76.top 56)) rfl
  exact ⟨_, fd, F, He.glo_ok X G (c.t.d.fact 43 (f := .glo "_law_pick") rfl)⟩
theorem f__law_name (X : K.In h) (G : h.Ns mainGlobals mg) (c : He.SaysX fa fn [] [] ex w h K) : K76.Fnn K mg "_law_name" 48 := by
  obtain ⟨fd, F⟩ := c.t.d.def_ 35 (d := dd "_law_name" (K76.top 48)) rfl
  exact ⟨_, fd, F, He.glo_ok X G (c.t.d.fact 35 (f := .glo "_law_name") rfl)⟩
theorem f__law_names (X : K.In h) (G : h.Ns mainGlobals mg) (c : He.SaysX fa fn [] [] ex w h K) : K76.Fnn K mg "_law_names" 49 := by
  obtain ⟨fd, F⟩ := c.t.d.def_ 36 (d := dd "_law_names" (K76.top 49)) rfl
  exact ⟨_, fd, F, He.glo_ok X G (c.t.d.fact 36 (f := .glo "_law_names") rfl)⟩
theorem f__law_wood_of (X : K.In h) (G : h.Ns mainGlobals mg) (c : He.SaysX fa fn [] [] ex w h K) : K76.Fnn K mg "_law_wood_of" 44 := by
  obtain ⟨fd, F⟩ := c.t.d.def_ 31 (d := dd "_law_wood_of" (K76.top 44)) rfl
  exact ⟨_, fd, F, He.glo_ok X G (c.t.d.fact 31 (f := .glo "_law_wood_of") rfl)⟩
theorem f__law_wood (X : K.In h) (G : h.Ns mainGlobals mg) (c : He.SaysX fa fn [] [] ex w h K) : K76.Fnn K mg "_law_wood" 46 := by
  obtain ⟨fd, F⟩ := c.t.d.def_ 33 (d := dd "_law_wood" (K76.top 46)) rfl
  exact ⟨_, fd, F, He.glo_ok X G (c.t.d.fact 33 (f := .glo "_law_wood") rfl)⟩
theorem f__law_tall_wood (X : K.In h) (G : h.Ns mainGlobals mg) (c : He.SaysX fa fn [] [] ex w h K) : K76.Fnn K mg "_law_tall_wood" 47 := by
  obtain ⟨fd, F⟩ := c.t.d.def_ 34 (d := dd "_law_tall_wood" (K76.top 47)) rfl
  exact ⟨_, fd, F, He.glo_ok X G (c.t.d.fact 34 (f := .glo "_law_tall_wood") rfl)⟩
theorem f__law_wood_and_names (X : K.In h) (G : h.Ns mainGlobals mg) (c : He.SaysX fa fn [] [] ex w h K) : K76.Fnn K mg "_law_wood_and_names" 50 := by
  obtain ⟨fd, F⟩ := c.t.d.def_ 37 (d := dd "_law_wood_and_names" (K76.top 50)) rfl
  exact ⟨_, fd, F, He.glo_ok X G (c.t.d.fact 37 (f := .glo "_law_wood_and_names") rfl)⟩
theorem f__law_some_wood (X : K.In h) (G : h.Ns mainGlobals mg) (c : He.SaysX fa fn [] [] ex w h K) : K76.Fnn K mg "_law_some_wood" 51 := by
  obtain ⟨fd, F⟩ := c.t.d.def_ 38 (d := dd "_law_some_wood" (K76.top 51)) rfl
  exact ⟨_, fd, F, He.glo_ok X G (c.t.d.fact 38 (f := .glo "_law_some_wood") rfl)⟩
theorem f__law_kids (X : K.In h) (G : h.Ns mainGlobals mg) (c : He.SaysX fa fn [] [] ex w h K) : K76.Fnn K mg "_law_kids" 52 := by
  obtain ⟨fd, F⟩ := c.t.d.def_ 39 (d := dd "_law_kids" (K76.top 52)) rfl
  exact ⟨_, fd, F, He.glo_ok X G (c.t.d.fact 39 (f := .glo "_law_kids") rfl)⟩
theorem f__law_row (X : K.In h) (G : h.Ns mainGlobals mg) (c : He.SaysX fa fn [] [] ex w h K) : K76.Fnn K mg "_law_row" 54 := by
  obtain ⟨fd, F⟩ := c.t.d.def_ 41 (d := dd "_law_row" (K76.top 54)) rfl
  exact ⟨_, fd, F, He.glo_ok X G (c.t.d.fact 41 (f := .glo "_law_row") rfl)⟩
theorem f__law_row_moved (X : K.In h) (G : h.Ns mainGlobals mg) (c : He.SaysX fa fn [] [] ex w h K) : K76.Fnn K mg "_law_row_moved" 53 := by
  obtain ⟨fd, F⟩ := c.t.d.def_ 40 (d := dd "_law_row_moved" (K76.top 53)) rfl
  exact ⟨_, fd, F, He.glo_ok X G (c.t.d.fact 40 (f := .glo "_law_row_moved") rfl)⟩
theorem f__law_from_row (X : K.In h) (G : h.Ns mainGlobals mg) (c : He.SaysX fa fn [] [] ex w h K) : K76.Fnn K mg "_law_from_row" 55 := by
  obtain ⟨fd, F⟩ := c.t.d.def_ 42 (d := dd "_law_from_row" (K76.top 55)) rfl
  exact ⟨_, fd, F, He.glo_ok X G (c.t.d.fact 42 (f := .glo "_law_from_row") rfl)⟩
theorem f__law_mixed_kids (X : K.In h) (G : h.Ns mainGlobals mg) (c : He.SaysX fa fn [] [] ex w h K) : K76.Fnn K mg "_law_mixed_kids" 57 := by
  obtain ⟨fd, F⟩ := c.t.d.def_ 44 (d := dd "_law_mixed_kids" (K76.top 57)) rfl
  exact ⟨_, fd, F, He.glo_ok X G (c.t.d.fact 44 (f := .glo "_law_mixed_kids") rfl)⟩
theorem f__law_moved_some (X : K.In h) (G : h.Ns mainGlobals mg) (c : He.SaysX fa fn [] [] ex w h K) : K76.Fnn K mg "_law_moved_some" 58 := by
  obtain ⟨fd, F⟩ := c.t.d.def_ 45 (d := dd "_law_moved_some" (K76.top 58)) rfl
  exact ⟨_, fd, F, He.glo_ok X G (c.t.d.fact 45 (f := .glo "_law_moved_some") rfl)⟩
theorem f__law_two_woods (X : K.In h) (G : h.Ns mainGlobals mg) (c : He.SaysX fa fn [] [] ex w h K) : K76.Fnn K mg "_law_two_woods" 59 := by
  obtain ⟨fd, F⟩ := c.t.d.def_ 46 (d := dd "_law_two_woods" (K76.top 59)) rfl
  exact ⟨_, fd, F, He.glo_ok X G (c.t.d.fact 46 (f := .glo "_law_two_woods") rfl)⟩
theorem f__law_is_move (X : K.In h) (G : h.Ns mainGlobals mg) (c : He.SaysX fa fn [] [] ex w h K) : K76.Fnn K mg "_law_is_move" 60 := by
  obtain ⟨fd, F⟩ := c.t.d.def_ 47 (d := dd "_law_is_move" (K76.top 60)) rfl
  exact ⟨_, fd, F, He.glo_ok X G (c.t.d.fact 47 (f := .glo "_law_is_move") rfl)⟩
theorem f__law_leads (X : K.In h) (G : h.Ns mainGlobals mg) (c : He.SaysX fa fn [] [] ex w h K) : K76.Fnn K mg "_law_leads" 61 := by
  obtain ⟨fd, F⟩ := c.t.d.def_ 48 (d := dd "_law_leads" (K76.top 61)) rfl
  exact ⟨_, fd, F, He.glo_ok X G (c.t.d.fact 48 (f := .glo "_law_leads") rfl)⟩
theorem f__law_overs (X : K.In h) (G : h.Ns mainGlobals mg) (c : He.SaysX fa fn [] [] ex w h K) : K76.Fnn K mg "_law_overs" 62 := by
  obtain ⟨fd, F⟩ := c.t.d.def_ 49 (d := dd "_law_overs" (K76.top 62)) rfl
  exact ⟨_, fd, F, He.glo_ok X G (c.t.d.fact 49 (f := .glo "_law_overs") rfl)⟩
theorem f__law_staying (X : K.In h) (G : h.Ns mainGlobals mg) (c : He.SaysX fa fn [] [] ex w h K) : K76.Fnn K mg "_law_staying" 63 := by
  obtain ⟨fd, F⟩ := c.t.d.def_ 50 (d := dd "_law_staying" (K76.top 63)) rfl
  exact ⟨_, fd, F, He.glo_ok X G (c.t.d.fact 50 (f := .glo "_law_staying") rfl)⟩
theorem f__law_is_turned (X : K.In h) (G : h.Ns mainGlobals mg) (c : He.SaysX fa fn [] [] ex w h K) : K76.Fnn K mg "_law_is_turned" 64 := by
  obtain ⟨fd, F⟩ := c.t.d.def_ 51 (d := dd "_law_is_turned" (K76.top 64)) rfl
  exact ⟨_, fd, F, He.glo_ok X G (c.t.d.fact 51 (f := .glo "_law_is_turned") rfl)⟩
theorem f__law_right_labels (X : K.In h) (G : h.Ns mainGlobals mg) (c : He.SaysX fa fn [] [] ex w h K) : K76.Fnn K mg "_law_right_labels" 65 := by
  obtain ⟨fd, F⟩ := c.t.d.def_ 52 (d := dd "_law_right_labels" (K76.top 65)) rfl
  exact ⟨_, fd, F, He.glo_ok X G (c.t.d.fact 52 (f := .glo "_law_right_labels") rfl)⟩
theorem f__law_label_count (X : K.In h) (G : h.Ns mainGlobals mg) (c : He.SaysX fa fn [] [] ex w h K) : K76.Fnn K mg "_law_label_count" 66 := by
  obtain ⟨fd, F⟩ := c.t.d.def_ 53 (d := dd "_law_label_count" (K76.top 66)) rfl
  exact ⟨_, fd, F, He.glo_ok X G (c.t.d.fact 53 (f := .glo "_law_label_count") rfl)⟩
theorem f__law_bent (X : K.In h) (G : h.Ns mainGlobals mg) (c : He.SaysX fa fn [] [] ex w h K) : K76.Fnn K mg "_law_bent" 67 := by
  obtain ⟨fd, F⟩ := c.t.d.def_ 54 (d := dd "_law_bent" (K76.top 67)) rfl
  exact ⟨_, fd, F, He.glo_ok X G (c.t.d.fact 54 (f := .glo "_law_bent") rfl)⟩
end
theorem law_ok {P : Program} {w : World} {K : PySem.W.Frag} {h : Heap} {mg : Str → Option Value} {f : Addr} (X : K.In h) (G : h.Ns mainGlobals mg) (hf : mg ("law" : Str) = some (.ref f)) (c : He.SaysX fa fn [] [] ex w h K) :
    ∃ fd : FuncData, (∀ (s : Shared) (v : Value), BindsTo s fd ⟨[v], []⟩ [("_law_script", v)]) ∧ ∀ base : Heap, FnOk P w K mg base CX0 210 f fd ["_law_script"] (K76.spLaw K) := by
  have T := tp X G c
  obtain ⟨fd, F⟩ := c.t.d.def_ 55 (d := dd "law" (K76.top 68)) rfl
  have e := hf.symm.trans (He.glo_ok X G (c.t.d.fact 55 (f := .glo "law") rfl))
  cases e
  have b := FunD.bindsA (ps := ["_law_script"]) F fun _ _ _ _ _ _ us hl => match us, hl with | [_], _ => rfl
  refine ⟨fd, fun s v => b s [v] rfl, fun base => ?_⟩
  have c_begin_of := K76.cal_begin_of T (f_begin_of X G c) (P := P) (w := w) (base := base)
  have c_end_of := K76.cal_end_of T (f_end_of X G c) (P := P) (w := w) (base := base)
  have c_span := K76.cal_span T (f_span X G c) c_begin_of c_end_of (P := P) (w := w) (base := base)
  have c_is_there := K76.cal_is_there T (f_is_there X G c) c_begin_of (P := P) (w := w) (base := base)
  have c_is_within := K76.cal_is_within T (f_is_within X G c) c_span c_begin_of (P := P) (w := w) (base := base)
  have c_old_of := K76.cal_old_of T (f_old_of X G c) (P := P) (w := w) (base := base)
  have c_new_of := K76.cal_new_of T (f_new_of X G c) (P := P) (w := w) (base := base)
  have c_stop_of := K76.cal_stop_of T (f_stop_of X G c) c_old_of c_is_there c_new_of c_is_within (P := P) (w := w) (base := base)
  have c_moved := K76.cal_moved T (f_moved X G c) c_span c_begin_of c_end_of (P := P) (w := w) (base := base)
  have c_done := K76.cal_done T (f_done X G c) c_moved (P := P) (w := w) (base := base)
  have c_done_all := K76.cal_done_all T (f_done_all X G c) c_stop_of c_done (P := P) (w := w) (base := base)
  have c_is_name := K76.cal_is_name T (f_is_name X G c) (P := P) (w := w) (base := base)
  have c_row_of := K76.cal_row_of T (f_row_of X G c) c_begin_of c_end_of (P := P) (w := w) (base := base)
  have c_names_of := K76.cal_names_of T (f_names_of X G c) c_row_of (P := P) (w := w) (base := base)
  have c_all_parents := K76.cal_all_parents T (f_all_parents X G c) (P := P) (w := w) (base := base)
  have c_deed_error := K76.cal_deed_error T (f_deed_error X G c) c_is_name (P := P) (w := w) (base := base)
  have c_require_alike := K76.cal_require_alike T (f_require_alike X G c) c_names_of (P := P) (w := w) (base := base)
  have c_staying := K76.cal_staying T (f_staying X G c) c_all_parents c_names_of (P := P) (w := w) (base := base)
  have c_places := K76.cal_places T (f_places X G c) c_names_of (P := P) (w := w) (base := base)
  have c_lengths := K76.cal_lengths T (f_lengths X G c) c_places c_staying (P := P) (w := w) (base := base)
  have c_labels := K76.cal_labels T (f_labels X G c) c_require_alike c_lengths (P := P) (w := w) (base := base)
  have c_resting := K76.cal_resting T (f_resting X G c) c_places c_lengths c_staying (P := P) (w := w) (base := base)
  have c_least_moves := K76.cal_least_moves T (f_least_moves X G c) c_require_alike c_names_of c_resting (P := P) (w := w) (base := base)
  have c_fewest := K76.cal_fewest T (f_fewest X G c) c_require_alike c_resting c_all_parents c_names_of (P := P) (w := w) (base := base)
  have c_are_pairs := K76.cal_are_pairs T (f_are_pairs X G c) (P := P) (w := w) (base := base)
  have c_are_right := K76.cal_are_right T (f_are_right X G c) c_staying c_are_pairs c_places (P := P) (w := w) (base := base)
  have c_lets_fewest := K76.cal_lets_fewest T (f_lets_fewest X G c) c_require_alike c_deed_error c_are_right c_row_of c_done_all c_staying c_names_of (P := P) (w := w) (base := base)
  have c__law_deck := K76.cal_law_deck T (f__law_deck X G c) (P := P) (w := w) (base := base)
  have c__law_draw := K76.cal_law_draw T (f__law_draw X G c) (P := P) (w := w) (base := base)
  have c__law_pick := K76.cal_law_pick T (f__law_pick X G c) c__law_draw (P := P) (w := w) (base := base)
  have c__law_name := K76.cal_law_name T (f__law_name X G c) c__law_draw (P := P) (w := w) (base := base)
  have c__law_names := K76.cal_law_names T (f__law_names X G c) c__law_draw c__law_name (P := P) (w := w) (base := base)
  have c__law_wood_of := K76.cal_wood_of T (f__law_wood_of X G c) 201 (P := P) (w := w) (base := base)
  have c__law_wood := K76.cal_law_wood T (f__law_wood X G c) c__law_draw c__law_wood_of (P := P) (w := w) (base := base)
  have c__law_tall_wood := K76.cal_law_tall_wood T (f__law_tall_wood X G c) c__law_draw c__law_wood_of (P := P) (w := w) (base := base)
  have c__law_wood_and_names := K76.cal_law_wood_and_names T (f__law_wood_and_names X G c) c__law_draw c__law_names c__law_tall_wood c__law_wood (P := P) (w := w) (base := base)
  have c__law_some_wood := K76.cal_law_some_wood T (f__law_some_wood X G c) c__law_wood_and_names (P := P) (w := w) (base := base)
  have c__law_kids := K76.cal_law_kids T (f__law_kids X G c) (P := P) (w := w) (base := base)
  have c__law_row := K76.cal_rowL T (f__law_row X G c) 201 (P := P) (w := w) (base := base)
  have c__law_row_moved := K76.cal_law_row_moved T (f__law_row_moved X G c) (P := P) (w := w) (base := base)
  have c__law_from_row := K76.cal_law_from_row T (f__law_from_row X G c) (P := P) (w := w) (base := base)
  have c__law_mixed_kids := K76.cal_law_mixed_kids T (f__law_mixed_kids X G c) c__law_kids c__law_draw c__law_wood_of (P := P) (w := w) (base := base)
  have c__law_moved_some := K76.cal_law_moved_some T (f__law_moved_some X G c) c__law_row c__law_draw c__law_pick c__law_row_moved c__law_from_row (P := P) (w := w) (base := base)
  have c__law_two_woods := K76.cal_law_two_woods T (f__law_two_woods X G c) c__law_draw c__law_some_wood c__law_row c__law_wood c__law_mixed_kids c__law_moved_some (P := P) (w := w) (base := base)
  have c__law_is_move := K76.cal_law_is_move T (f__law_is_move X G c) (P := P) (w := w) (base := base)
  have c__law_leads := K76.cal_law_leads T (f__law_leads X G c) c__law_row c__law_is_move c__law_row_moved (P := P) (w := w) (base := base)
  have c__law_overs := K76.cal_law_overs T (f__law_overs X G c) c__law_kids (P := P) (w := w) (base := base)
  have c__law_staying := K76.cal_law_staying T (f__law_staying X G c) c__law_overs c__law_kids (P := P) (w := w) (base := base)
  have c__law_is_turned := K76.cal_law_is_turned T (f__law_is_turned X G c) (P := P) (w := w) (base := base)
  have c__law_right_labels := K76.cal_law_right_labels T (f__law_right_labels X G c) c__law_staying c__law_is_turned (P := P) (w := w) (base := base)
  have c__law_label_count := K76.cal_law_label_count T (f__law_label_count X G c) c__law_staying (P := P) (w := w) (base := base)
  have c__law_bent := K76.cal_law_bent T (f__law_bent X G c) c__law_draw c__law_pick (P := P) (w := w) (base := base)
  exact K76.ok_law T F c__law_deck c__law_two_woods c_fewest c_labels c__law_right_labels c__law_leads c__law_label_count c__law_overs c_least_moves c_lets_fewest c__law_bent
end K76H
open PySem PySem.W PySem.Calls PyProof.Rows
theorem PySem.Challenge.cw_twigscripts_k76_whole_fewest_moves_holds : PySem.Challenge.rw_twigscripts_k76_whole_fewest_moves.Holds := by
  w_on; o_law
  refine HandSHeadRun.head_any (r := K76H.R) (q := view K76H.R.prog [68]) (H := K76H.hk) (ob := K76H.ob) (M := 4000) (loose := K76H.nm)
    (d := HandSHeadRun.topDef K76H.R.prog 68) (kwd := []) K76H.ob_eq (by kernel_rfl) (fun s => by kernel_rfl)
    K76H.run (by kernel_rfl) (by kernel_rfl) (by kernel_rfl) (by rfl) (by first | assumption | decide +kernel) (by decide +kernel) ⟨rfl, rfl, rfl, rfl, rfl, by decide +kernel⟩ ?hw ?hc
  case hw => w_witness2
  case hc =>
    refine L2.walk_ofE (l := PySem.Challenge.rw_twigscripts_k76_whole_fewest_moves) (n := 63) (k := 210) (x := "_law_script") (CX := L2.CX0) rfl (by decide) (by kernel_rfl) ⟨rfl, by decide, by decide⟩ ?F (fun _ _ _ _ z => z)
    intro w mg fa h Y G hmg0
    obtain ⟨K, KX, c⟩ := Y
    have hmg : mg ("law" : PySem.Str) = some (.ref fa) := by
      have e : (HandSHeadRun.topDef K76H.R.prog 68).name = ("law" : PySem.Str) := by kernel_rfl
      rw [← e]
      exact hmg0
    obtain ⟨fd, hb, hF⟩ := K76H.law_ok (P := (PySem.Challenge.rw_twigscripts_k76_whole_fewest_moves).prog) (w := w) KX G hmg c
    exact ⟨K, fd, K76.spLaw K, KX, hb, fun H a ns hl _ hS => ⟨a, ns, rfl, hS, by omega, fun _ => rfl⟩, fun base _ _ => hF base⟩

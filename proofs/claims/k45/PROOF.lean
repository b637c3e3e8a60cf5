import PyProof.Rows.All
import HandS.ReplaceList
import Wide.All
import OpenK.AllK
import Wide.FinOn
import KE.KDictKeyed
import HandS.ForMost
import HandS.Evl
import HandS.Walk
import HandS.Steps
import HandS.Defaults
import HandS.IsInst
import HandS.Style
import HandS.Star
import HandS.DictComp
import HandS.Wide
import HandS.SetKeys
import HandS.Strs
import HandS.Nested
import HandS.NestedK
import HandS.EndTab
import HandS.More
import HandS.Replace
import PyProof.ToksMono
import HandS.Set
import HandS.Zip
import KE.GoesMore
import PyProof.StrLawsIn
import HandS.TupLe
import HandS.TryOnly
import HandS.Head0
import HandS.Head1
import HandS.Head2
import HandS.HeadEnd
import HandS.HeadHook1
import HandS.HeadHook2
import HandS.HeadHook3
import HandS.HeadHook4
import HandS.HeadWalk
import KE.KNestM
import KE.KStateDown
import PySem.Challenge.RW_everrow_k45_whole_orders_put_together
set_option Elab.async false
set_option linter.all false
namespace Ev
open PySem.StrLaws (replL replL_nil replL_hit replL_miss)

/-! ### orders as data; what one order makes of a line -/
abbrev Tx := List Nat
inductive Od where
  | rep (o n : Tx)
  | front (w : Tx)
  | back (w : Tx)
  | first (n : Nat)
  | last (n : Nat)
  | letters (ps : List (Nat × Nat))
  deriving DecidableEq, Repr
inductive Ms where
  | txt (t : Tx)
  | num (n : Nat)
  deriving DecidableEq, Repr

def subst1 (ps : List (Nat × Nat)) (c : Nat) : Nat := (ps.lookup c).getD c
def doneM : Od → Tx → Tx
  | .rep o n, x => replL o n x
  | .front w, x => w ++ x
  | .back w, x => x ++ w
  | .first n, x => x.drop n
  | .last n, x => x.take (x.length - n)
  | .letters ps, x => x.map (subst1 ps)
def playedM : List Od → Tx → Tx
  | [], x => x
  | o :: os, x => playedM os (doneM o x)
theorem playedM_append (a b : List Od) (x : Tx) : playedM (a ++ b) x = playedM b (playedM a x) := by
  induction a generalizing x with
  | nil => rfl
  | cons o a ih => exact ih _

/-! ### one machine -/
def shiftM (o : Tx) : Tx → Tx × Tx
  | [] => ([], [])
  | c :: r => if (c :: r).isPrefixOf o then (c :: r, []) else ((shiftM o r).1, c :: (shiftM o r).2)
def fedM : Od → Ms → Nat → Ms × Tx
  | .rep o n, .txt h, c => if h ++ [c] = o then (.txt [], n) else (.txt (shiftM o (h ++ [c])).1, (shiftM o (h ++ [c])).2)
  | .first _, .num k, c => if 0 < k then (.num (k - 1), []) else (.num 0, [c])
  | .last n, .txt h, c => if n < (h ++ [c]).length then (.txt (h ++ [c]).tail, (h ++ [c]).take 1) else (.txt (h ++ [c]), [])
  | .letters ps, s, c => (s, [subst1 ps c])
  | _, s, c => (s, [c])
def ledM (o : Od) : Ms → Tx → Ms × Tx
  | s, [] => (s, [])
  | s, c :: u => ((ledM o (fedM o s c).1 u).1, (fedM o s c).2 ++ (ledM o (fedM o s c).1 u).2)
theorem ledM_append (o : Od) (s : Ms) (u v : Tx) : ledM o s (u ++ v) = ((ledM o (ledM o s u).1 v).1, (ledM o s u).2 ++ (ledM o (ledM o s u).1 v).2) := by
  induction u generalizing s with
  | nil => rfl
  | cons c u ih =>
    show (((ledM o (fedM o s c).1 (u ++ v)).1, (fedM o s c).2 ++ (ledM o (fedM o s c).1 (u ++ v)).2) : Ms × Tx) = _
    rw [ih]
    show _ = (((ledM o (ledM o (fedM o s c).1 u).1 v).1, ((fedM o s c).2 ++ (ledM o (fedM o s c).1 u).2) ++ (ledM o (ledM o (fedM o s c).1 u).1 v).2) : Ms × Tx)
    rw [List.append_assoc]
def flushM : Od → Ms → Tx
  | .rep _ _, .txt h => h
  | .back w, _ => w
  | _, _ => []
def frontM : Od → Tx
  | .front w => w
  | _ => []
def initM : Od → Ms
  | .first n => .num n
  | _ => .txt []
def semM (o : Od) (s : Ms) (y : Tx) : Tx := (ledM o s y).2 ++ flushM o (ledM o s y).1
theorem semM_append (o : Od) (s : Ms) (u y : Tx) : semM o s (u ++ y) = (ledM o s u).2 ++ semM o (ledM o s u).1 y := by
  unfold semM
  rw [ledM_append, List.append_assoc]

theorem semM_cons (o : Od) (s : Ms) (c : Nat) (y : Tx) : semM o s (c :: y) = (fedM o s c).2 ++ semM o (fedM o s c).1 y := by
  unfold semM
  show ((fedM o s c).2 ++ (ledM o (fedM o s c).1 y).2) ++ _ = _
  rw [List.append_assoc]
  rfl
/-- the states that a machine may have -/
def OkS : Od → Ms → Prop
  | .rep o _, .txt h => h.length < o.length ∧ h.isPrefixOf o = true
  | .first n, .num k => k ≤ n
  | .last n, .txt h => h.length ≤ n
  | .front _, .txt h => h = []
  | .back _, .txt h => h = []
  | .letters _, .txt h => h = []
  | _, _ => False
def OkO : Od → Prop
  | .rep o n => o ≠ [] ∧ o.length ≤ 3 ∧ n.length ≤ 3
  | .front w => w.length ≤ 3
  | .back w => w.length ≤ 3
  | .first n => n ≤ 2
  | .last n => n ≤ 1
  | .letters ps => (ps.map (·.1)).Nodup ∧ ps.length ≤ 8

theorem shiftM_len (o h : Tx) : (shiftM o h).1.length + (shiftM o h).2.length = h.length := by
  induction h with
  | nil => rfl
  | cons c r ih =>
    unfold shiftM
    split
    · simp
    · simp only [List.length_cons]; omega
theorem shiftM_pre (o h : Tx) : (shiftM o h).1.isPrefixOf o = true := by
  induction h with
  | nil => simp [shiftM, List.isPrefixOf]
  | cons c r ih =>
    unfold shiftM
    split
    · assumption
    · exact ih
theorem shiftM_lt (o h : Tx) (hl : h.length ≤ o.length) (hne : h ≠ o) (ho : o ≠ []) : (shiftM o h).1.length < o.length := by
  cases h with
  | nil => cases o with
    | nil => exact absurd rfl ho
    | cons a b => simp [shiftM]
  | cons c r =>
    unfold shiftM
    split
    · rename_i hp
      have hp' := List.isPrefixOf_iff_prefix.mp hp
      rcases Nat.lt_or_ge (c :: r).length o.length with q | q
      · exact q
      · exact absurd (hp'.eq_of_length (by omega)) hne
    · have := shiftM_len o r
      simp only [List.length_cons] at hl
      show (shiftM o r).1.length < o.length
      omega
theorem repl_short (o n h : Tx) (hl : h.length < o.length) : replL o n h = h := by
  induction h with
  | nil => exact replL_nil
  | cons c r ih =>
    rw [replL_miss (y := o) (z := n) (c := c) (r := r) (fun e => by
      have := congrArg List.length e
      rw [List.length_take] at this
      omega), ih (by simp only [List.length_cons] at hl; omega)]
theorem repl_hit_app (o n y : Tx) (ho : o ≠ []) : replL o n (o ++ y) = n ++ replL o n y := by
  cases o with
  | nil => exact absurd rfl ho
  | cons a b =>
    have h : (a :: (b ++ y)).take (a :: b).length = a :: b := by
      show ((a :: b) ++ y).take (a :: b).length = a :: b
      exact List.take_left' rfl
    have e := replL_hit (y := a :: b) (z := n) (c := a) (r := b ++ y) ho h
    show replL (a :: b) n (a :: (b ++ y)) = _
    rw [e]
    have e2 : (a :: (b ++ y)).drop (a :: b).length = y := by
      show ((a :: b) ++ y).drop (a :: b).length = y
      exact List.drop_left' rfl
    rw [e2]
theorem repl_shift (o n : Tx) (ho : o ≠ []) : ∀ (h y : Tx), h.length ≤ o.length → h ≠ o → replL o n (h ++ y) = (shiftM o h).2 ++ replL o n ((shiftM o h).1 ++ y)
  | [], y, _, _ => rfl
  | c :: r, y, hl, hne => by
    unfold shiftM
    split
    · rfl
    · rename_i hp
      have hl' : r.length < o.length := by simp only [List.length_cons] at hl; omega
      have hr : r ≠ o := fun e => by rw [e] at hl'; exact Nat.lt_irrefl _ hl'
      have ih := repl_shift o n ho r y (by omega) hr
      have hm : replL o n ((c :: r) ++ y) = c :: replL o n (r ++ y) := by
        show replL o n (c :: (r ++ y)) = _
        refine replL_miss fun e => hp ?_
        rw [List.isPrefixOf_iff_prefix]
        have e2 : (c :: r) = o.take (c :: r).length := by
          rw [← e, List.take_take, Nat.min_eq_left hl]
          show _ = ((c :: r) ++ y).take (c :: r).length
          exact (List.take_left' rfl).symm
        rw [e2]
        exact List.take_prefix _ _
      rw [hm, ih]
      rfl
theorem sem_rep (o n : Tx) (ho : o ≠ []) : ∀ (y h : Tx), h.length < o.length → semM (.rep o n) (.txt h) y = replL o n (h ++ y)
  | [], h, hl => by
    rw [List.append_nil, repl_short o n h hl]
    rfl
  | c :: y, h, hl => by
    rw [semM_cons]
    have ea : h ++ c :: y = (h ++ [c]) ++ y := by rw [List.append_assoc]; rfl
    rw [ea]
    by_cases he : h ++ [c] = o
    · have ef : fedM (.rep o n) (.txt h) c = (.txt [], n) := if_pos he
      rw [ef, he, repl_hit_app o n y ho, sem_rep o n ho y [] (by cases o with | nil => exact absurd rfl ho | cons => simp)]
      rfl
    · have ef : fedM (.rep o n) (.txt h) c = (.txt (shiftM o (h ++ [c])).1, (shiftM o (h ++ [c])).2) := if_neg he
      have hl2 : (h ++ [c]).length ≤ o.length := by rw [List.length_append]; exact hl
      rw [ef, repl_shift o n ho (h ++ [c]) y hl2 he, sem_rep o n ho y _ (shiftM_lt o _ hl2 he ho)]
theorem sem_first (n : Nat) : ∀ (y : Tx) (k : Nat), semM (.first n) (.num k) y = y.drop k
  | [], k => by simp [semM, ledM, flushM]
  | c :: y, 0 => by
    rw [semM_cons]
    show [c] ++ semM (.first n) (.num 0) y = c :: y
    rw [sem_first n y 0]
    rfl
  | c :: y, k + 1 => by
    rw [semM_cons]
    show [] ++ semM (.first n) (.num k) y = y.drop k
    rw [sem_first n y k]
    rfl
theorem sem_last (n : Nat) : ∀ (y h : Tx), h.length ≤ n → semM (.last n) (.txt h) y = (h ++ y).take ((h ++ y).length - n)
  | [], h, hl => by
    have e : (h ++ []).length - n = 0 := by rw [List.append_nil]; omega
    rw [e]
    rfl
  | c :: y, h, hl => by
    rw [semM_cons]
    have ea : h ++ c :: y = (h ++ [c]) ++ y := by rw [List.append_assoc]; rfl
    rw [ea]
    by_cases he : n < (h ++ [c]).length
    · have ef : fedM (.last n) (.txt h) c = (.txt (h ++ [c]).tail, (h ++ [c]).take 1) := if_pos he
      rw [ef, sem_last n y _ (by rw [List.length_tail, List.length_append]; simp only [List.length_cons, List.length_nil]; omega)]
      have hx : ∃ a b, h ++ [c] = a :: b := by cases h <;> simp
      obtain ⟨a, b, hab⟩ := hx
      rw [hab]
      have hab2 : b.length = n := by
        have := congrArg List.length hab
        rw [hab] at he
        simp only [List.length_append, List.length_cons, List.length_nil] at this he
        omega
      show [a] ++ (b ++ y).take ((b ++ y).length - n) = (a :: (b ++ y)).take ((a :: (b ++ y)).length - n)
      have e3 : (a :: (b ++ y)).length - n = ((b ++ y).length - n) + 1 := by
        simp only [List.length_cons, List.length_append]
        omega
      rw [e3]
      rfl
    · have ef : fedM (.last n) (.txt h) c = (.txt (h ++ [c]), []) := if_neg he
      rw [ef, sem_last n y _ (by omega)]
      rfl
theorem sem_same (o : Od) (h1 : ∀ c, fedM o (.txt []) c = (.txt [], [c])) (y : Tx) : ledM o (.txt []) y = (.txt [], y) := by
  induction y with
  | nil => rfl
  | cons c y ih =>
    unfold ledM
    rw [h1, ih]
    rfl
theorem sem_letters (ps : List (Nat × Nat)) (y : Tx) : ledM (.letters ps) (.txt []) y = (.txt [], y.map (subst1 ps)) := by
  induction y with
  | nil => rfl
  | cons c y ih =>
    unfold ledM
    show (((ledM (.letters ps) (.txt []) y).1, [subst1 ps c] ++ (ledM (.letters ps) (.txt []) y).2) : Ms × Tx) = _
    rw [ih]
    rfl
/-- one order done = its machine -/
theorem doneM_sem (o : Od) (ho : OkO o) (x : Tx) : doneM o x = frontM o ++ semM o (initM o) x := by
  cases o with
  | rep o n =>
    show replL o n x = semM (.rep o n) (.txt []) x
    rw [sem_rep o n ho.1 x [] (by cases o with | nil => exact absurd rfl ho.1 | cons => simp)]
    rfl
  | front w =>
    show w ++ x = w ++ semM (.front w) (.txt []) x
    unfold semM
    rw [sem_same (.front w) (fun _ => rfl)]
    show w ++ x = w ++ (x ++ [])
    rw [List.append_nil]
  | back w =>
    show x ++ w = semM (.back w) (.txt []) x
    unfold semM
    rw [sem_same (.back w) (fun _ => rfl)]
    rfl
  | first n => exact (sem_first n x n).symm
  | last n => exact (sem_last n x [] (Nat.zero_le _)).symm
  | letters ps =>
    show x.map (subst1 ps) = semM (.letters ps) (.txt []) x
    unfold semM
    rw [sem_letters]
    show _ = _ ++ []
    rw [List.append_nil]
theorem okS_init (o : Od) (ho : OkO o) : OkS o (initM o) := by
  cases o with
  | rep o n => exact ⟨by cases o with | nil => exact absurd rfl ho.1 | cons => simp, by simp [List.isPrefixOf]⟩
  | front w => rfl
  | back w => rfl
  | first n => exact Nat.le_refl n
  | last n => exact Nat.zero_le n
  | letters ps => rfl
theorem okS_fed (o : Od) (ho : OkO o) (s : Ms) (hs : OkS o s) (c : Nat) : OkS o (fedM o s c).1 := by
  cases o with
  | rep o n =>
    cases s with
    | num k => exact hs.elim
    | txt h =>
      by_cases he : h ++ [c] = o
      · have ef : fedM (.rep o n) (.txt h) c = (.txt [], n) := if_pos he
        rw [ef]
        exact okS_init (.rep o n) ho
      · have ef : fedM (.rep o n) (.txt h) c = (.txt (shiftM o (h ++ [c])).1, (shiftM o (h ++ [c])).2) := if_neg he
        rw [ef]
        exact ⟨shiftM_lt o _ (by rw [List.length_append]; exact hs.1) he ho.1, shiftM_pre o _⟩
  | front w => cases s with
    | num k => exact hs.elim
    | txt h => exact hs
  | back w => cases s with
    | num k => exact hs.elim
    | txt h => exact hs
  | first n => cases s with
    | txt h => exact hs.elim
    | num k =>
      have hs' : k ≤ n := hs
      unfold fedM
      dsimp only
      split
      · show k - 1 ≤ n
        omega
      · exact Nat.zero_le n
  | last n => cases s with
    | num k => exact hs.elim
    | txt h =>
      have hs' : h.length ≤ n := hs
      unfold fedM
      dsimp only
      split
      · show (h ++ [c]).tail.length ≤ n
        rw [List.length_tail, List.length_append]
        simp only [List.length_cons, List.length_nil]
        omega
      · show (h ++ [c]).length ≤ n
        omega
  | letters ps => cases s with
    | num k => exact hs.elim
    | txt h => exact hs
theorem okS_led (o : Od) (ho : OkO o) (u : Tx) : ∀ s, OkS o s → OkS o (ledM o s u).1 := by
  induction u with
  | nil => exact fun s hs => hs
  | cons c u ih => exact fun s hs => ih _ (okS_fed o ho s hs c)

/-! ### sizes -/
theorem fed_size (o : Od) (ho : OkO o) (s : Ms) (hs : OkS o s) (c : Nat) : (fedM o s c).2.length ≤ 3 := by
  cases o with
  | rep o n =>
    cases s with
    | num k => exact hs.elim
    | txt h =>
      by_cases he : h ++ [c] = o
      · have ef : fedM (.rep o n) (.txt h) c = (.txt [], n) := if_pos he
        rw [ef]
        exact ho.2.2
      · have ef : fedM (.rep o n) (.txt h) c = (.txt (shiftM o (h ++ [c])).1, (shiftM o (h ++ [c])).2) := if_neg he
        rw [ef]
        have h1 := shiftM_len o (h ++ [c])
        have h2 := ho.2.1
        have h3 := hs.1
        rw [List.length_append] at h1
        simp only [List.length_cons, List.length_nil] at h1
        show (shiftM o (h ++ [c])).2.length ≤ 3
        omega
  | front w => simp [fedM]
  | back w => simp [fedM]
  | first n => cases s with
    | txt h => exact hs.elim
    | num k =>
      unfold fedM
      dsimp only
      split <;> simp
  | last n => cases s with
    | num k => exact hs.elim
    | txt h =>
      unfold fedM
      dsimp only
      split
      · show ((h ++ [c]).take 1).length ≤ 3
        rw [List.length_take]
        omega
      · simp
  | letters ps => simp [fedM]
theorem led_size (o : Od) (ho : OkO o) (u : Tx) : ∀ s, OkS o s → (ledM o s u).2.length ≤ 3 * u.length := by
  induction u with
  | nil => exact fun s hs => Nat.zero_le _
  | cons c u ih =>
    intro s hs
    have h1 := fed_size o ho s hs c
    have h2 := ih _ (okS_fed o ho s hs c)
    show ((fedM o s c).2 ++ (ledM o (fedM o s c).1 u).2).length ≤ 3 * (u.length + 1)
    rw [List.length_append]
    omega
theorem flush_size (o : Od) (ho : OkO o) (s : Ms) (hs : OkS o s) : (flushM o s).length ≤ 3 := by
  cases o with
  | rep o n => cases s with
    | num k => exact hs.elim
    | txt h =>
      have h1 := ho.2.1
      have h2 := hs.1
      show h.length ≤ 3
      omega
  | back w => exact ho
  | front w => exact Nat.zero_le _
  | first n => exact Nat.zero_le _
  | last n => exact Nat.zero_le _
  | letters ps => exact Nat.zero_le _
theorem front_size (o : Od) (ho : OkO o) : (frontM o).length ≤ 3 := by
  cases o with
  | front w => exact ho
  | _ => exact Nat.zero_le _
theorem sem_size (o : Od) (ho : OkO o) (s : Ms) (hs : OkS o s) (y : Tx) : (semM o s y).length ≤ 3 * y.length + 3 := by
  unfold semM
  rw [List.length_append]
  have h1 := led_size o ho y s hs
  have h2 := flush_size o ho _ (okS_led o ho y s hs)
  omega
end Ev
set_option Elab.async false
set_option linter.all false
namespace Ev

/-! ### rows of machines -/
def psemM : List Od → List Ms → Tx → Tx
  | o :: os, s :: ss, y => psemM os ss (semM o s y)
  | _, _, y => y
def pushM : List Od → List Ms → Tx → List Ms × Tx
  | o :: os, s :: ss, u => ((ledM o s u).1 :: (pushM os ss (ledM o s u).2).1, (pushM os ss (ledM o s u).2).2)
  | _, _, u => ([], u)
def endM (os : List Od) (ss : List Ms) : Tx := psemM os ss []
def begM : List Od → Tx → List Ms × Tx
  | [], out => ([], out)
  | o :: os, out => ((ledM o (initM o) out).1 :: (begM os (frontM o ++ (ledM o (initM o) out).2)).1, (begM os (frontM o ++ (ledM o (initM o) out).2)).2)
/-- every state fits its order -/
def OkSs : List Od → List Ms → Prop
  | [], [] => True
  | o :: os, s :: ss => OkS o s ∧ OkSs os ss
  | _, _ => False
def OkOs (os : List Od) : Prop := ∀ o ∈ os, OkO o
theorem OkOs.head {o : Od} {os : List Od} (h : OkOs (o :: os)) : OkO o := h o List.mem_cons_self
theorem OkOs.tail {o : Od} {os : List Od} (h : OkOs (o :: os)) : OkOs os := fun p hp => h p (List.mem_cons_of_mem _ hp)
theorem OkOs.append {a b : List Od} (h : OkOs a) (k : OkOs b) : OkOs (a ++ b) := fun p hp => (List.mem_append.mp hp).elim (h p) (k p)
theorem psem_append : ∀ (os : List Od) (ss : List Ms) (u y : Tx), OkSs os ss → psemM os ss (u ++ y) = (pushM os ss u).2 ++ psemM os (pushM os ss u).1 y
  | [], [], u, y, _ => rfl
  | o :: os, s :: ss, u, y, h => by
    show psemM os ss (semM o s (u ++ y)) = (pushM os ss (ledM o s u).2).2 ++ psemM os (pushM os ss (ledM o s u).2).1 (semM o (ledM o s u).1 y)
    rw [semM_append]
    exact psem_append os ss _ _ h.2
  | [], _ :: _, _, _, h => h.elim
  | _ :: _, [], _, _, h => h.elim
theorem okSs_push : ∀ (os : List Od) (ss : List Ms) (u : Tx), OkOs os → OkSs os ss → OkSs os (pushM os ss u).1
  | [], [], _, _, _ => trivial
  | o :: os, s :: ss, u, ho, h => ⟨okS_led o ho.head u s h.1, okSs_push os ss _ ho.tail h.2⟩
  | [], _ :: _, _, _, h => h.elim
  | _ :: _, [], _, _, h => h.elim
theorem okSs_beg : ∀ (os : List Od) (out : Tx), OkOs os → OkSs os (begM os out).1
  | [], _, _ => trivial
  | o :: os, out, ho => ⟨okS_led o ho.head out _ (okS_init o ho.head), okSs_beg os _ ho.tail⟩
theorem played_beg : ∀ (os : List Od) (out y : Tx), OkOs os → playedM os (out ++ y) = (begM os out).2 ++ psemM os (begM os out).1 y
  | [], _, _, _ => rfl
  | o :: os, out, y, ho => by
    show playedM os (doneM o (out ++ y)) = (begM os (frontM o ++ (ledM o (initM o) out).2)).2 ++ psemM os (begM os (frontM o ++ (ledM o (initM o) out).2)).1 (semM o (ledM o (initM o) out).1 y)
    rw [doneM_sem o ho.head, semM_append, ← List.append_assoc]
    exact played_beg os _ _ ho.tail
theorem push_append : ∀ (os : List Od) (ss : List Ms) (u v : Tx), OkSs os ss → pushM os ss (u ++ v) = ((pushM os (pushM os ss u).1 v).1, (pushM os ss u).2 ++ (pushM os (pushM os ss u).1 v).2)
  | [], [], _, _, _ => rfl
  | o :: os, s :: ss, u, v, h => by
    show (((ledM o s (u ++ v)).1 :: (pushM os ss (ledM o s (u ++ v)).2).1, (pushM os ss (ledM o s (u ++ v)).2).2) : List Ms × Tx) = _
    rw [ledM_append]
    show (((ledM o (ledM o s u).1 v).1 :: (pushM os ss ((ledM o s u).2 ++ (ledM o (ledM o s u).1 v).2)).1, (pushM os ss ((ledM o s u).2 ++ (ledM o (ledM o s u).1 v).2)).2) : List Ms × Tx) = _
    rw [push_append os ss _ _ h.2]
    rfl
  | [], _ :: _, _, _, h => h.elim
  | _ :: _, [], _, _, h => h.elim
/-! sizes -/
def pow3 : List Od → Nat
  | [] => 1
  | _ :: os => 3 * pow3 os
theorem pow3_pos (os : List Od) : 1 ≤ pow3 os := by
  induction os with
  | nil => exact Nat.le_refl _
  | cons o os ih => show 1 ≤ 3 * pow3 os; omega
theorem push_size : ∀ (os : List Od) (ss : List Ms) (u : Tx), OkOs os → OkSs os ss → (pushM os ss u).2.length ≤ pow3 os * u.length
  | [], [], u, _, _ => by show u.length ≤ 1 * u.length; omega
  | o :: os, s :: ss, u, ho, h => by
    have h1 := led_size o ho.head u s h.1
    have h2 := push_size os ss (ledM o s u).2 ho.tail h.2
    have h3 : pow3 os * (ledM o s u).2.length ≤ pow3 os * (3 * u.length) := Nat.mul_le_mul_left _ h1
    show (pushM os ss (ledM o s u).2).2.length ≤ 3 * pow3 os * u.length
    have h4 : pow3 os * (3 * u.length) = 3 * pow3 os * u.length := by rw [Nat.mul_comm 3 (pow3 os), Nat.mul_assoc]
    omega
  | [], _ :: _, _, _, h => h.elim
  | _ :: _, [], _, _, h => h.elim
theorem psem_size : ∀ (os : List Od) (ss : List Ms) (y : Tx), OkOs os → OkSs os ss → (psemM os ss y).length + 2 ≤ pow3 os * (y.length + 2)
  | [], [], y, _, _ => by show y.length + 2 ≤ 1 * (y.length + 2); omega
  | o :: os, s :: ss, y, ho, h => by
    have h1 := sem_size o ho.head s h.1 y
    have h2 := psem_size os ss (semM o s y) ho.tail h.2
    have h3 : pow3 os * ((semM o s y).length + 2) ≤ pow3 os * (3 * (y.length + 2)) := Nat.mul_le_mul_left _ (by omega)
    show (psemM os ss (semM o s y)).length + 2 ≤ 3 * pow3 os * (y.length + 2)
    have h4 : pow3 os * (3 * (y.length + 2)) = 3 * pow3 os * (y.length + 2) := by rw [Nat.mul_comm 3 (pow3 os), Nat.mul_assoc]
    omega
  | [], _ :: _, _, _, h => h.elim
  | _ :: _, [], _, _, h => h.elim
theorem beg_size : ∀ (os : List Od) (out : Tx), OkOs os → (begM os out).2.length + 2 ≤ pow3 os * (out.length + 2)
  | [], y, _ => by show y.length + 2 ≤ 1 * (y.length + 2); omega
  | o :: os, out, ho => by
    have h1 := led_size o ho.head out _ (okS_init o ho.head)
    have h0 := front_size o ho.head
    have h2 := beg_size os (frontM o ++ (ledM o (initM o) out).2) ho.tail
    rw [List.length_append] at h2
    have h3 : pow3 os * ((frontM o).length + (ledM o (initM o) out).2.length + 2) ≤ pow3 os * (3 * (out.length + 2)) := Nat.mul_le_mul_left _ (by omega)
    show (begM os (frontM o ++ (ledM o (initM o) out).2)).2.length + 2 ≤ 3 * pow3 os * (out.length + 2)
    have h4 : pow3 os * (3 * (out.length + 2)) = 3 * pow3 os * (out.length + 2) := by rw [Nat.mul_comm 3 (pow3 os), Nat.mul_assoc]
    omega

/-! ### the signs -/
def SG : List Nat := [32, 97, 98, 99, 100, 101, 102, 103, 104, 105, 106, 107, 108, 109, 110, 111, 112, 113, 114, 115, 116, 117, 118, 119, 120, 121, 122]
def AllSg (x : Tx) : Prop := ∀ c ∈ x, c ∈ SG
theorem AllSg.app {x y : Tx} (h : AllSg x) (k : AllSg y) : AllSg (x ++ y) := fun c hc => (List.mem_append.mp hc).elim (h c) (k c)
theorem AllSg.nil : AllSg [] := fun _ h => nomatch h
theorem AllSg.sub {x y : Tx} (h : AllSg y) (k : ∀ c ∈ x, c ∈ y) : AllSg x := fun c hc => h c (k c hc)
def namedM : Od → Tx
  | .rep o n => o ++ n
  | .front w => w
  | .back w => w
  | .letters ps => ps.flatMap fun p => [p.1, p.2]
  | _ => []
def namedsM (os : List Od) : Tx := os.flatMap namedM
def SgOs (os : List Od) : Prop := AllSg (namedsM os)
def othersM (named : Tx) : Tx := SG.filter fun c => !named.contains c
def signsM (os : List Od) (word : Tx) (more : Nat) : Tx := SG.filter fun c => (word ++ namedsM os).contains c || ((othersM (word ++ namedsM os)).take more).contains c
theorem signs_sg (os : List Od) (w : Tx) (m : Nat) : AllSg (signsM os w m) := fun _ hc => (List.mem_filter.mp hc).1
def SgS : Ms → Prop
  | .txt h => AllSg h
  | .num _ => True
theorem sg_rep (o n x : Tx) (hn : AllSg n) : ∀ (k : Nat) (x : Tx), AllSg x → AllSg (PySem.StrLaws.replS o n k x) := by
  intro k x
  induction x generalizing k with
  | nil => intro h; cases k <;> exact h
  | cons c r ih =>
    intro h
    have hr : AllSg r := fun d hd => h d (List.mem_cons_of_mem _ hd)
    cases k with
    | zero =>
      rw [PySem.StrLaws.replS]
      split
      · exact hn.app (ih _ hr)
      · intro d hd
        rcases List.mem_cons.mp hd with e | hd
        · rw [e]; exact h c List.mem_cons_self
        · exact ih _ hr d hd
    | succ k => rw [PySem.StrLaws.replS]; exact ih _ hr
theorem lookup_mem' {ps : List (Nat × Nat)} {c d : Nat} (h : ps.lookup c = some d) : (c, d) ∈ ps := by
  induction ps with
  | nil => simp at h
  | cons p ps ih =>
    obtain ⟨a, b⟩ := p
    rw [List.lookup_cons] at h
    split at h
    · rename_i e
      have e' : c = a := by simpa using e
      cases h
      rw [e']
      exact List.mem_cons_self
    · exact List.mem_cons_of_mem _ (ih h)
theorem sg_subst {ps : List (Nat × Nat)} (hp : AllSg (namedM (.letters ps))) {c : Nat} (hc : c ∈ SG) : subst1 ps c ∈ SG := by
  unfold subst1
  cases e : ps.lookup c with
  | none => exact hc
  | some d => exact hp d (List.mem_flatMap.mpr ⟨(c, d), lookup_mem' e, by simp⟩)
theorem sg_done (o : Od) (ho : AllSg (namedM o)) (x : Tx) (hx : AllSg x) : AllSg (doneM o x) := by
  cases o with
  | rep o n => exact sg_rep o n x (fun c hc => ho c (List.mem_append_right _ hc)) 0 x hx
  | front w => exact AllSg.app ho hx
  | back w => exact AllSg.app hx ho
  | first n => exact hx.sub fun c hc => List.mem_of_mem_drop hc
  | last n => exact hx.sub fun c hc => List.mem_of_mem_take hc
  | letters ps =>
    intro c hc
    obtain ⟨d, hd, e⟩ := List.mem_map.mp hc
    rw [← e]
    exact sg_subst ho (hx d hd)
theorem SgOs.head {o : Od} {os : List Od} (h : SgOs (o :: os)) : AllSg (namedM o) := fun c hc => h c (List.mem_append_left _ hc)
theorem SgOs.tail {o : Od} {os : List Od} (h : SgOs (o :: os)) : SgOs os := fun c hc => h c (List.mem_append_right _ hc)
theorem SgOs.append {a b : List Od} (h : SgOs a) (k : SgOs b) : SgOs (a ++ b) := fun c hc => by
  unfold namedsM at hc
  rw [List.flatMap_append] at hc
  exact (List.mem_append.mp hc).elim (h c) (k c)
theorem sg_played : ∀ (os : List Od) (x : Tx), SgOs os → AllSg x → AllSg (playedM os x)
  | [], _, _, hx => hx
  | o :: os, x, ho, hx => sg_played os _ ho.tail (sg_done o ho.head x hx)
theorem sg_shift (o h : Tx) (hh : AllSg h) : AllSg (shiftM o h).1 ∧ AllSg (shiftM o h).2 := by
  induction h with
  | nil => exact ⟨AllSg.nil, AllSg.nil⟩
  | cons c r ih =>
    have hr : AllSg r := fun d hd => hh d (List.mem_cons_of_mem _ hd)
    unfold shiftM
    split
    · exact ⟨hh, AllSg.nil⟩
    · refine ⟨(ih hr).1, fun d hd => ?_⟩
      rcases List.mem_cons.mp hd with e | hd
      · rw [e]; exact hh c List.mem_cons_self
      · exact (ih hr).2 d hd
theorem AllSg.one {c : Nat} (h : c ∈ SG) : AllSg [c] := fun d hd => by
  rw [List.mem_singleton.mp hd]; exact h
theorem sg_fed (o : Od) (ho : AllSg (namedM o)) (s : Ms) (hs : SgS s) (c : Nat) (hc : c ∈ SG) : SgS (fedM o s c).1 ∧ AllSg (fedM o s c).2 := by
  cases o with
  | rep o n =>
    cases s with
    | num k => exact ⟨trivial, AllSg.one hc⟩
    | txt h =>
      have hh : AllSg (h ++ [c]) := AllSg.app hs (AllSg.one hc)
      by_cases he : h ++ [c] = o
      · have ef : fedM (.rep o n) (.txt h) c = (.txt [], n) := if_pos he
        rw [ef]
        exact ⟨AllSg.nil, fun d hd => ho d (List.mem_append_right _ hd)⟩
      · have ef : fedM (.rep o n) (.txt h) c = (.txt (shiftM o (h ++ [c])).1, (shiftM o (h ++ [c])).2) := if_neg he
        rw [ef]
        exact sg_shift o _ hh
  | front w => exact ⟨by cases s <;> exact hs, by cases s <;> exact AllSg.one hc⟩
  | back w => exact ⟨by cases s <;> exact hs, by cases s <;> exact AllSg.one hc⟩
  | first n => cases s with
    | txt h => exact ⟨hs, AllSg.one hc⟩
    | num k =>
      unfold fedM
      dsimp only
      split
      · exact ⟨trivial, AllSg.nil⟩
      · exact ⟨trivial, AllSg.one hc⟩
  | last n => cases s with
    | num k => exact ⟨trivial, AllSg.one hc⟩
    | txt h =>
      have hh : AllSg (h ++ [c]) := AllSg.app hs (AllSg.one hc)
      unfold fedM
      dsimp only
      split
      · exact ⟨hh.sub fun d hd => List.mem_of_mem_tail hd, hh.sub fun d hd => List.mem_of_mem_take hd⟩
      · exact ⟨hh, AllSg.nil⟩
  | letters ps => cases s with
    | num k => exact ⟨trivial, AllSg.one (sg_subst ho hc)⟩
    | txt h => exact ⟨hs, AllSg.one (sg_subst ho hc)⟩
theorem sg_led (o : Od) (ho : AllSg (namedM o)) (u : Tx) : ∀ s, SgS s → AllSg u → SgS (ledM o s u).1 ∧ AllSg (ledM o s u).2 := by
  induction u with
  | nil => exact fun s hs _ => ⟨hs, AllSg.nil⟩
  | cons c u ih =>
    intro s hs hu
    have h1 := sg_fed o ho s hs c (hu c List.mem_cons_self)
    have h2 := ih _ h1.1 fun d hd => hu d (List.mem_cons_of_mem _ hd)
    exact ⟨h2.1, h1.2.app h2.2⟩
def SgSs (ss : List Ms) : Prop := ∀ s ∈ ss, SgS s
theorem sg_push : ∀ (os : List Od) (ss : List Ms) (u : Tx), SgOs os → SgSs ss → AllSg u → SgSs (pushM os ss u).1 ∧ AllSg (pushM os ss u).2
  | o :: os, s :: ss, u, ho, h, hu => by
    have h1 := sg_led o ho.head u s (h s List.mem_cons_self) hu
    have h2 := sg_push os ss _ ho.tail (fun t ht => h t (List.mem_cons_of_mem _ ht)) h1.2
    refine ⟨fun t ht => ?_, h2.2⟩
    rcases List.mem_cons.mp ht with e | ht
    · rw [e]; exact h1.1
    · exact h2.1 t ht
  | [], _, u, _, _, hu => ⟨fun _ ht => (nomatch ht), hu⟩
  | _ :: _, [], u, _, _, hu => ⟨fun _ ht => (nomatch ht), hu⟩
theorem sg_init (o : Od) : SgS (initM o) := by cases o <;> first | exact AllSg.nil | exact trivial
theorem sg_front (o : Od) (ho : AllSg (namedM o)) : AllSg (frontM o) := by
  cases o with
  | front w => exact ho
  | _ => exact AllSg.nil
theorem sg_beg : ∀ (os : List Od) (out : Tx), SgOs os → AllSg out → SgSs (begM os out).1 ∧ AllSg (begM os out).2
  | [], out, _, hu => ⟨fun _ ht => (nomatch ht), hu⟩
  | o :: os, out, ho, hu => by
    have h1 := sg_led o ho.head out (initM o) (sg_init o) hu
    have h2 := sg_beg os _ ho.tail ((sg_front o ho.head).app h1.2)
    refine ⟨fun t ht => ?_, h2.2⟩
    rcases List.mem_cons.mp ht with e | ht
    · rw [e]; exact h1.1
    · exact h2.1 t ht
/-! ### the finitely many rows of states -/
def stOf : Od → List Ms
  | .rep o _ => (List.range o.length).map fun k => .txt (o.take k)
  | .first n => (List.range (n + 1)).map .num
  | .last n => if n = 0 then [.txt []] else .txt [] :: SG.map fun c => .txt [c]
  | _ => [.txt []]
def prods : List Od → List (List Ms)
  | [] => [[]]
  | o :: os => (stOf o).flatMap fun s => (prods os).map fun ss => s :: ss
def nn : List Od → Nat
  | [] => 1
  | o :: os => (stOf o).length * nn os
theorem length_flatMap_const {α β : Type} (f : α → List β) (m : Nat) : ∀ l : List α, (∀ a ∈ l, (f a).length = m) → (l.flatMap f).length = l.length * m
  | [], _ => by simp
  | a :: l, h => by
    rw [List.flatMap_cons, List.length_append, h a List.mem_cons_self, length_flatMap_const f m l fun b hb => h b (List.mem_cons_of_mem _ hb), List.length_cons, Nat.add_mul, Nat.one_mul, Nat.add_comm]
theorem prods_len : ∀ os : List Od, (prods os).length = nn os
  | [] => rfl
  | o :: os => by
    show ((stOf o).flatMap fun s => (prods os).map fun ss => s :: ss).length = (stOf o).length * nn os
    rw [length_flatMap_const _ (nn os) _ fun s _ => by rw [List.length_map, prods_len os]]
theorem st_mem (o : Od) (ho : OkO o) (s : Ms) (h : OkS o s) (hs : SgS s) : s ∈ stOf o := by
  cases o with
  | rep o n =>
    cases s with
    | num k => exact h.elim
    | txt t =>
      refine List.mem_map.mpr ⟨t.length, List.mem_range.mpr h.1, ?_⟩
      have := List.isPrefixOf_iff_prefix.mp h.2
      rw [List.prefix_iff_eq_take.mp this, List.length_take, Nat.min_eq_left (Nat.le_of_lt h.1)]
  | front w => cases s with
    | num k => exact h.elim
    | txt t => rw [show t = [] from h]; exact List.mem_singleton.mpr rfl
  | back w => cases s with
    | num k => exact h.elim
    | txt t => rw [show t = [] from h]; exact List.mem_singleton.mpr rfl
  | letters ps => cases s with
    | num k => exact h.elim
    | txt t => rw [show t = [] from h]; exact List.mem_singleton.mpr rfl
  | first n => cases s with
    | txt t => exact h.elim
    | num k => exact List.mem_map.mpr ⟨k, List.mem_range.mpr (Nat.lt_succ_of_le h), rfl⟩
  | last n => cases s with
    | num k => exact h.elim
    | txt t =>
      have h1 : t.length ≤ n := h
      have h2 : n ≤ 1 := ho
      show Ms.txt t ∈ (if n = 0 then [Ms.txt []] else Ms.txt [] :: SG.map fun c => Ms.txt [c])
      cases t with
      | nil => by_cases e : n = 0
               · rw [if_pos e]; exact List.mem_cons_self
               · rw [if_neg e]; exact List.mem_cons_self
      | cons c r =>
        simp only [List.length_cons] at h1
        have e : n ≠ 0 := by omega
        have er : r = [] := List.eq_nil_of_length_eq_zero (by omega)
        rw [if_neg e, er]
        exact List.mem_cons_of_mem _ (List.mem_map.mpr ⟨c, hs c List.mem_cons_self, rfl⟩)
theorem prods_mem : ∀ (os : List Od) (ss : List Ms), OkOs os → OkSs os ss → SgSs ss → ss ∈ prods os
  | [], [], _, _, _ => List.mem_singleton.mpr rfl
  | o :: os, s :: ss, ho, h, hs => List.mem_flatMap.mpr ⟨s, st_mem o ho.head s h.1 (hs s List.mem_cons_self), List.mem_map.mpr ⟨ss, prods_mem os ss ho.tail h.2 fun t ht => hs t (List.mem_cons_of_mem _ ht), rfl⟩⟩
  | [], _ :: _, _, h, _ => h.elim
  | _ :: _, [], _, h, _ => h.elim
/-- as many as there are places -/
theorem nodup_le {α : Type} [DecidableEq α] : ∀ (l u : List α), l.Nodup → (∀ a ∈ l, a ∈ u) → l.length ≤ u.length
  | [], u, _, _ => Nat.zero_le _
  | a :: l, u, hn, hs => by
    have hn' := List.nodup_cons.mp hn
    have ha := hs a List.mem_cons_self
    have h1 := nodup_le l (u.erase a) hn'.2 fun b hb => by
      have : b ≠ a := fun e => hn'.1 (e ▸ hb)
      exact (List.mem_erase_of_ne this).mpr (hs b (List.mem_cons_of_mem _ hb))
    rw [List.length_erase_of_mem ha] at h1
    have : 0 < u.length := List.length_pos_of_mem ha
    simp only [List.length_cons]
    omega
theorem nodup_map_le {α β : Type} [DecidableEq β] (f : α → β) (l : List α) (u : List β) (hn : l.Nodup) (hi : ∀ a ∈ l, ∀ b ∈ l, f a = f b → a = b) (hs : ∀ a ∈ l, f a ∈ u) : l.length ≤ u.length := by
  have h1 : (l.map f).Nodup := by
    clear hs
    induction l with
    | nil => exact List.nodup_nil
    | cons a l ih =>
      have hn' := List.nodup_cons.mp hn
      rw [List.map_cons, List.nodup_cons]
      refine ⟨fun hm => ?_, ih hn'.2 fun b hb c hc => hi b (List.mem_cons_of_mem _ hb) c (List.mem_cons_of_mem _ hc)⟩
      obtain ⟨b, hb, e⟩ := List.mem_map.mp hm
      exact hn'.1 (hi b (List.mem_cons_of_mem _ hb) a List.mem_cons_self e ▸ hb)
  have h2 := nodup_le (l.map f) u h1 fun b hb => by
    obtain ⟨a, ha, e⟩ := List.mem_map.mp hb
    rw [← e]
    exact hs a ha
  rwa [List.length_map] at h2
end Ev
set_option Elab.async false
set_option linter.all false
namespace Ev

/-! ### first_unlike -/
def apartM : Tx → Tx → Tx × Tx
  | a :: x, b :: y => if a = b then apartM x y else (a :: x, b :: y)
  | x, y => (x, y)
theorem apart_nil_l (y : Tx) : apartM [] y = ([], y) := by cases y <;> rfl
theorem apart_nil_r (x : Tx) : apartM x [] = (x, []) := by cases x <;> rfl
theorem apart_cons (a b : Nat) (x y : Tx) : apartM (a :: x) (b :: y) = if a = b then apartM x y else (a :: x, b :: y) := rfl
theorem apart_pre : ∀ x y : Tx, ∃ p, x = p ++ (apartM x y).1 ∧ y = p ++ (apartM x y).2
  | [], y => ⟨[], by rw [apart_nil_l]; exact ⟨rfl, rfl⟩⟩
  | a :: x, [] => ⟨[], rfl, rfl⟩
  | a :: x, b :: y => by
    rw [apart_cons]
    by_cases e : a = b
    · rw [if_pos e]
      obtain ⟨p, h1, h2⟩ := apart_pre x y
      exact ⟨a :: p, by rw [List.cons_append, ← h1], by rw [List.cons_append, ← h2, e]⟩
    · rw [if_neg e]
      exact ⟨[], rfl, rfl⟩
def Norm (d e : Tx) : Prop := d = [] ∨ e = [] ∨ ∃ a x b y, d = a :: x ∧ e = b :: y ∧ a ≠ b
theorem apart_norm : ∀ x y : Tx, Norm (apartM x y).1 (apartM x y).2
  | [], y => by rw [apart_nil_l]; exact .inl rfl
  | a :: x, [] => .inr (.inl rfl)
  | a :: x, b :: y => by
    rw [apart_cons]
    by_cases e : a = b
    · rw [if_pos e]; exact apart_norm x y
    · rw [if_neg e]; exact .inr (.inr ⟨a, x, b, y, rfl, rfl, e⟩)
structure Nd where
  s : List Ms
  t : List Ms
  d : Tx
  e : Tx
  deriving DecidableEq
section
variable (one other : List Od)
def mkN (s t : List Ms) (x y : Tx) : Nd := ⟨s, t, (apartM x y).1, (apartM x y).2⟩
def startN : Nd := mkN (begM one []).1 (begM other []).1 (begM one []).2 (begM other []).2
def stepN (nd : Nd) (c : Nat) : Nd := mkN (pushM one nd.s [c]).1 (pushM other nd.t [c]).1 (nd.d ++ (pushM one nd.s [c]).2) (nd.e ++ (pushM other nd.t [c]).2)
def badN (nd : Nd) : Bool := decide (nd.d ++ endM one nd.s ≠ nd.e ++ endM other nd.t)
def runFrom (nd : Nd) (w : Tx) : Nd := w.foldl (stepN one other) nd
def runN (w : Tx) : Nd := runFrom one other (startN one other) w
theorem run_snoc (w : Tx) (c : Nat) : runN one other (w ++ [c]) = stepN one other (runN one other w) c := by
  unfold runN runFrom
  rw [List.foldl_append]
  rfl
/-- what a node says of the line that leads to it -/
structure Says (w : Tx) (nd : Nd) : Prop where
  os : OkSs one nd.s
  ot : OkSs other nd.t
  norm : Norm nd.d nd.e
  eqs : ∃ p, ∀ y, playedM one (w ++ y) = p ++ (nd.d ++ psemM one nd.s y) ∧ playedM other (w ++ y) = p ++ (nd.e ++ psemM other nd.t y)
variable {one other}
theorem says_run (h1 : OkOs one) (h2 : OkOs other) (w : Tx) : Says one other w (runN one other w) := by
  suffices h : ∀ (u : Tx) (nd : Nd) (w : Tx), Says one other w nd → Says one other (w ++ u) (runFrom one other nd u) by
    refine h w (startN one other) [] ⟨okSs_beg one [] h1, okSs_beg other [] h2, apart_norm _ _, ?_⟩
    obtain ⟨p, e1, e2⟩ := apart_pre (begM one []).2 (begM other []).2
    refine ⟨p, fun y => ⟨?_, ?_⟩⟩
    · have := played_beg one [] y h1
      rw [this]
      show (begM one []).2 ++ _ = p ++ ((apartM (begM one []).2 (begM other []).2).1 ++ _)
      rw [← List.append_assoc, ← e1]
      rfl
    · have := played_beg other [] y h2
      rw [this]
      show (begM other []).2 ++ _ = p ++ ((apartM (begM one []).2 (begM other []).2).2 ++ _)
      rw [← List.append_assoc, ← e2]
      rfl
  intro u
  induction u with
  | nil => intro nd w h; rw [List.append_nil]; exact h
  | cons c u ih =>
    intro nd w h
    have e : w ++ c :: u = (w ++ [c]) ++ u := by rw [List.append_assoc]; rfl
    rw [e]
    refine ih (stepN one other nd c) (w ++ [c]) ⟨okSs_push one nd.s [c] h1 h.os, okSs_push other nd.t [c] h2 h.ot, apart_norm _ _, ?_⟩
    obtain ⟨p, hp⟩ := h.eqs
    obtain ⟨q, e1, e2⟩ := apart_pre (nd.d ++ (pushM one nd.s [c]).2) (nd.e ++ (pushM other nd.t [c]).2)
    refine ⟨p ++ q, fun y => ⟨?_, ?_⟩⟩
    · have ey : (w ++ [c]) ++ y = w ++ ([c] ++ y) := List.append_assoc _ _ _
      rw [ey, (hp ([c] ++ y)).1, psem_append one nd.s [c] y h.os]
      show p ++ (nd.d ++ _) = (p ++ q) ++ ((apartM (nd.d ++ (pushM one nd.s [c]).2) (nd.e ++ (pushM other nd.t [c]).2)).1 ++ psemM one (pushM one nd.s [c]).1 y)
      rw [List.append_assoc p q, ← List.append_assoc q, ← e1, List.append_assoc]
    · have ey : (w ++ [c]) ++ y = w ++ ([c] ++ y) := List.append_assoc _ _ _
      rw [ey, (hp ([c] ++ y)).2, psem_append other nd.t [c] y h.ot]
      show p ++ (nd.e ++ _) = (p ++ q) ++ ((apartM (nd.d ++ (pushM one nd.s [c]).2) (nd.e ++ (pushM other nd.t [c]).2)).2 ++ psemM other (pushM other nd.t [c]).1 y)
      rw [List.append_assoc p q, ← List.append_assoc q, ← e2, List.append_assoc]
theorem bad_iff (h1 : OkOs one) (h2 : OkOs other) (w : Tx) : badN one other (runN one other w) = true ↔ playedM one w ≠ playedM other w := by
  obtain ⟨p, hp⟩ := (says_run h1 h2 w).eqs
  have e := hp []
  rw [List.append_nil] at e
  unfold badN
  rw [decide_eq_true_iff, e.1, e.2]
  constructor
  · intro h k
    exact h (List.append_cancel_left k)
  · intro h k
    exact h (congrArg (p ++ ·) k)
theorem delay_of {d e x y : Tx} (hn : Norm d e) (h : d ++ x = e ++ y) : d = y.take (y.length - x.length) ∧ e = x.take (x.length - y.length) := by
  have hl := congrArg List.length h
  rw [List.length_append, List.length_append] at hl
  rcases hn with e1 | e1 | ⟨a, u, b, v, e1, e2, ne⟩
  · subst e1
    have h' : x = e ++ y := h
    simp only [List.length_nil] at hl
    refine ⟨?_, ?_⟩
    · rw [show y.length - x.length = 0 by omega]; rfl
    · rw [show x.length - y.length = e.length by omega, h']
      exact (List.take_left' rfl).symm
  · subst e1
    have h' : d ++ x = y := h
    simp only [List.length_nil] at hl
    refine ⟨?_, ?_⟩
    · rw [show y.length - x.length = d.length by omega, ← h']
      exact (List.take_left' rfl).symm
    · rw [show x.length - y.length = 0 by omega]; rfl
  · rw [e1, e2] at h
    simp only [List.cons_append, List.cons.injEq] at h
    exact absurd h.1 ne
/-- a node that is reached and does not part here -/
def RN (one other : List Od) (x : Nd) : Prop := ∃ w, AllSg w ∧ runN one other w = x ∧ badN one other x = false
theorem nbad {x : Nd} (h : badN one other x = false) : x.d ++ endM one x.s = x.e ++ endM other x.t := by
  unfold badN at h
  exact Classical.byContradiction fun k => of_decide_eq_false h k
theorem sg_run (g1 : SgOs one) (g2 : SgOs other) (w : Tx) (hw : AllSg w) : SgSs (runN one other w).s ∧ SgSs (runN one other w).t := by
  suffices h : ∀ (u : Tx) (nd : Nd), AllSg u → SgSs nd.s ∧ SgSs nd.t → SgSs (runFrom one other nd u).s ∧ SgSs (runFrom one other nd u).t from
    h w _ hw ⟨(sg_beg one [] g1 AllSg.nil).1, (sg_beg other [] g2 AllSg.nil).1⟩
  intro u
  induction u with
  | nil => exact fun nd _ h => h
  | cons c u ih =>
    intro nd hu h
    have hc : AllSg [c] := AllSg.one (hu c List.mem_cons_self)
    exact ih (stepN one other nd c) (fun d hd => hu d (List.mem_cons_of_mem _ hd)) ⟨(sg_push one nd.s [c] g1 h.1 hc).1, (sg_push other nd.t [c] g2 h.2 hc).1⟩
def pairsU (one other : List Od) : List (List Ms × List Ms) := (prods one).flatMap fun s => (prods other).map fun t => (s, t)
theorem pairsU_len : (pairsU one other).length = nn one * nn other := by
  unfold pairsU
  rw [length_flatMap_const _ (nn other) _ fun s _ => by rw [List.length_map, prods_len], prods_len]
theorem known_le (h1 : OkOs one) (h2 : OkOs other) (g1 : SgOs one) (g2 : SgOs other) (k : List Nd) (hn : k.Nodup) (hk : ∀ x ∈ k, RN one other x) : k.length ≤ nn one * nn other := by
  rw [← pairsU_len (one := one) (other := other)]
  refine nodup_map_le (fun x : Nd => (x.s, x.t)) k _ hn (fun x hx y hy e => ?_) fun x hx => ?_
  · obtain ⟨w, _, ew, bw⟩ := hk x hx
    obtain ⟨v, _, ev, bv⟩ := hk y hy
    have nx := (says_run h1 h2 w).norm
    have ny := (says_run h1 h2 v).norm
    rw [ew] at nx
    rw [ev] at ny
    have dx := delay_of nx (nbad bw)
    have dy := delay_of ny (nbad bv)
    obtain ⟨s, t, d, e1⟩ := x
    obtain ⟨s', t', d', e1'⟩ := y
    have e2 : s = s' := congrArg Prod.fst e
    have e3 : t = t' := congrArg Prod.snd e
    subst e2 e3
    rw [Nd.mk.injEq]
    exact ⟨rfl, rfl, dx.1.trans dy.1.symm, dx.2.trans dy.2.symm⟩
  · obtain ⟨w, hw, ew, _⟩ := hk x hx
    have a := says_run h1 h2 w
    have b := sg_run g1 g2 w hw
    rw [ew] at a b
    exact List.mem_flatMap.mpr ⟨x.s, prods_mem one x.s h1 a.os b.1, List.mem_map.mpr ⟨x.t, prods_mem other x.t h2 a.ot b.2, rfl⟩⟩
/-- the texts of a node are short -/
theorem rn_size (h1 : OkOs one) (h2 : OkOs other) {x : Nd} (h : RN one other x) : x.d.length ≤ pow3 other * 2 ∧ x.e.length ≤ pow3 one * 2 := by
  obtain ⟨w, _, ew, bw⟩ := h
  have a := says_run h1 h2 w
  rw [ew] at a
  have dx := delay_of a.norm (nbad bw)
  have e1 := psem_size one x.s [] h1 a.os
  have e2 := psem_size other x.t [] h2 a.ot
  simp only [List.length_nil, Nat.zero_add] at e1 e2
  rw [dx.1, dx.2, List.length_take, List.length_take]
  unfold endM
  omega

abbrev Lay := List (Tx × Nd)
def signL (one other : List Od) (line : Tx) (nd : Nd) : List Nat → List Nd → Lay → Except Tx (List Nd × Lay)
  | [], k, f => .ok (k, f)
  | c :: cs, k, f => if badN one other (stepN one other nd c) then .error (line ++ [c])
    else if stepN one other nd c ∈ k then signL one other line nd cs k f
    else signL one other line nd cs (k ++ [stepN one other nd c]) (f ++ [(line ++ [c], stepN one other nd c)])
def layerL (one other : List Od) (signs : List Nat) : Lay → List Nd → Lay → Except Tx (List Nd × Lay)
  | [], k, f => .ok (k, f)
  | p :: r, k, f => match signL one other p.1 p.2 signs k f with
    | .error w => .error w
    | .ok q => layerL one other signs r q.1 q.2
def loopL (one other : List Od) (signs : List Nat) : Nat → Lay → List Nd → Option (Option Tx)
  | _, [], _ => some none
  | 0, _ :: _, _ => none
  | n + 1, l :: ls, k => match layerL one other signs (l :: ls) k [] with
    | .error w => some (some w)
    | .ok q => loopL one other signs n q.2 q.1
def fuS (one other : List Od) (signs : List Nat) : Option (Option Tx) :=
  if badN one other (startN one other) then some (some []) else loopL one other signs (nn one * nn other + 1) [([], startN one other)] [startN one other]
def fuM (one other : List Od) : Option (Option Tx) := fuS one other (signsM (one ++ other) [] 2)

theorem signL_ok {line : Tx} {nd : Nd} : ∀ (cs : List Nat) (k : List Nd) (f : Lay) (k' : List Nd) (f' : Lay), signL one other line nd cs k f = .ok (k', f') →
    ∃ A : Lay, k' = k ++ A.map (·.2) ∧ f' = f ++ A ∧ (∀ q ∈ A, ∃ c ∈ cs, q = (line ++ [c], stepN one other nd c) ∧ badN one other q.2 = false) ∧ (∀ c ∈ cs, badN one other (stepN one other nd c) = false ∧ stepN one other nd c ∈ k') ∧ (k.Nodup → k'.Nodup)
  | [], k, f, k', f', h => by
    cases h
    exact ⟨[], by simp, by simp, fun _ hq => (nomatch hq), fun _ hc => (nomatch hc), id⟩
  | c :: cs, k, f, k', f', h => by
    unfold signL at h
    split at h
    · cases h
    · rename_i hb
      have hb' : badN one other (stepN one other nd c) = false := by simpa using hb
      split at h
      · rename_i hm
        obtain ⟨A, e1, e2, hA, hC, hN⟩ := signL_ok cs k f k' f' h
        refine ⟨A, e1, e2, fun q hq => ?_, fun d hd => ?_, hN⟩
        · obtain ⟨d, hd, e⟩ := hA q hq
          exact ⟨d, List.mem_cons_of_mem _ hd, e⟩
        · rcases List.mem_cons.mp hd with e | hd
          · rw [e]
            exact ⟨hb', by rw [e1]; exact List.mem_append_left _ hm⟩
          · exact hC d hd
      · rename_i hm
        obtain ⟨A, e1, e2, hA, hC, hN⟩ := signL_ok cs _ _ k' f' h
        refine ⟨(line ++ [c], stepN one other nd c) :: A, ?_, ?_, fun q hq => ?_, fun d hd => ?_, fun hn => hN ?_⟩
        · rw [e1, List.append_assoc]; rfl
        · rw [e2, List.append_assoc]; rfl
        · rcases List.mem_cons.mp hq with e | hq
          · rw [e]
            exact ⟨c, List.mem_cons_self, rfl, hb'⟩
          · obtain ⟨d, hd, e⟩ := hA q hq
            exact ⟨d, List.mem_cons_of_mem _ hd, e⟩
        · rcases List.mem_cons.mp hd with e | hd
          · rw [e]
            refine ⟨hb', ?_⟩
            rw [e1, List.append_assoc]
            exact List.mem_append_right _ (List.mem_append_left _ List.mem_cons_self)
          · exact hC d hd
        · rw [List.nodup_append]
          refine ⟨hn, by simp, fun a ha b hb => ?_⟩
          rw [List.mem_singleton.mp hb]
          exact fun e => hm (e ▸ ha)
theorem signL_err {line : Tx} {nd : Nd} : ∀ (cs : List Nat) (k : List Nd) (f : Lay) (w : Tx), signL one other line nd cs k f = .error w → ∃ c ∈ cs, w = line ++ [c] ∧ badN one other (stepN one other nd c) = true
  | [], k, f, w, h => by cases h
  | c :: cs, k, f, w, h => by
    unfold signL at h
    split at h
    · rename_i hb
      cases h
      exact ⟨c, List.mem_cons_self, rfl, hb⟩
    · split at h
      · obtain ⟨d, hd, e⟩ := signL_err cs _ _ w h
        exact ⟨d, List.mem_cons_of_mem _ hd, e⟩
      · obtain ⟨d, hd, e⟩ := signL_err cs _ _ w h
        exact ⟨d, List.mem_cons_of_mem _ hd, e⟩
theorem layerL_ok {signs : List Nat} : ∀ (l : Lay) (k : List Nd) (f : Lay) (k' : List Nd) (f' : Lay), layerL one other signs l k f = .ok (k', f') →
    ∃ A : Lay, k' = k ++ A.map (·.2) ∧ f' = f ++ A ∧ (∀ q ∈ A, ∃ p ∈ l, ∃ c ∈ signs, q = (p.1 ++ [c], stepN one other p.2 c) ∧ badN one other q.2 = false) ∧ (∀ p ∈ l, ∀ c ∈ signs, badN one other (stepN one other p.2 c) = false ∧ stepN one other p.2 c ∈ k') ∧ (k.Nodup → k'.Nodup)
  | [], k, f, k', f', h => by
    cases h
    exact ⟨[], by simp, by simp, fun _ hq => (nomatch hq), fun _ hc => (nomatch hc), id⟩
  | p :: l, k, f, k', f', h => by
    unfold layerL at h
    cases e : signL one other p.1 p.2 signs k f with
    | error w => rw [e] at h; cases h
    | ok q =>
      rw [e] at h
      obtain ⟨k1, f1⟩ := q
      obtain ⟨A, a1, a2, a3, a4, a5⟩ := signL_ok signs k f k1 f1 e
      obtain ⟨B, b1, b2, b3, b4, b5⟩ := layerL_ok l k1 f1 k' f' h
      refine ⟨A ++ B, ?_, ?_, fun q hq => ?_, fun r hr c hc => ?_, fun hn => b5 (a5 hn)⟩
      · rw [b1, a1, List.map_append, List.append_assoc]
      · rw [b2, a2, List.append_assoc]
      · rcases List.mem_append.mp hq with hq | hq
        · obtain ⟨c, hc, ec⟩ := a3 q hq
          exact ⟨p, List.mem_cons_self, c, hc, ec⟩
        · obtain ⟨r, hr, c, hc, ec⟩ := b3 q hq
          exact ⟨r, List.mem_cons_of_mem _ hr, c, hc, ec⟩
      · rcases List.mem_cons.mp hr with er | hr
        · rw [er]
          refine ⟨(a4 c hc).1, ?_⟩
          rw [b1]
          exact List.mem_append_left _ (a4 c hc).2
        · exact b4 r hr c hc
theorem layerL_err {signs : List Nat} : ∀ (l : Lay) (k : List Nd) (f : Lay) (w : Tx), layerL one other signs l k f = .error w → ∃ p ∈ l, ∃ c ∈ signs, w = p.1 ++ [c] ∧ badN one other (stepN one other p.2 c) = true
  | [], k, f, w, h => by cases h
  | p :: l, k, f, w, h => by
    unfold layerL at h
    cases e : signL one other p.1 p.2 signs k f with
    | error v =>
      rw [e] at h
      cases h
      obtain ⟨c, hc, ec⟩ := signL_err signs k f w e
      exact ⟨p, List.mem_cons_self, c, hc, ec⟩
    | ok q =>
      rw [e] at h
      obtain ⟨r, hr, x⟩ := layerL_err l _ _ w h
      exact ⟨r, List.mem_cons_of_mem _ hr, x⟩
def Over (signs : List Nat) (w : Tx) : Prop := ∀ c ∈ w, c ∈ signs
theorem Over.snoc {signs : List Nat} {w : Tx} {c : Nat} (h : Over signs w) (hc : c ∈ signs) : Over signs (w ++ [c]) := fun d hd => by
  rcases List.mem_append.mp hd with q | q
  · exact h d q
  · rw [List.mem_singleton.mp q]; exact hc
/-- what holds ahead of a level -/
structure BI (one other : List Od) (signs : List Nat) (n : Nat) (layer : Lay) (known : List Nd) : Prop where
  nd : known.Nodup
  lay : ∀ p ∈ layer, p.1.length = n ∧ Over signs p.1 ∧ runN one other p.1 = p.2
  kn : ∀ x ∈ known, ∃ w, Over signs w ∧ runN one other w = x ∧ badN one other x = false
  cl : ∀ x ∈ known, (∃ w, (w, x) ∈ layer) ∨ ∀ c ∈ signs, stepN one other x c ∈ known
  all : ∀ w, Over signs w → w.length ≤ n → runN one other w ∈ known
  sub : ∀ p ∈ layer, p.2 ∈ known
  lv : layer = [] ∨ n < known.length
theorem BI.start {signs : List Nat} (h : badN one other (startN one other) = false) : BI one other signs 0 [([], startN one other)] [startN one other] where
  nd := by simp
  lay := fun p hp => by rw [List.mem_singleton.mp hp]; exact ⟨rfl, fun _ h => (nomatch h), rfl⟩
  kn := fun x hx => ⟨[], fun _ h => (nomatch h), (List.mem_singleton.mp hx).symm, by rw [List.mem_singleton.mp hx]; exact h⟩
  cl := fun x hx => .inl ⟨[], by rw [List.mem_singleton.mp hx]; exact List.mem_singleton.mpr rfl⟩
  all := fun w _ hl => by
    rw [List.eq_nil_of_length_eq_zero (Nat.le_zero.mp hl)]
    exact List.mem_singleton.mpr rfl
  sub := fun p hp => by rw [List.mem_singleton.mp hp]; exact List.mem_singleton.mpr rfl
  lv := .inr (Nat.succ_pos 0)
theorem BI.next {signs : List Nat} {n : Nat} {layer : Lay} {known : List Nd} {k' : List Nd} {f' : Lay} (h : BI one other signs n layer known) (hne : layer ≠ []) (e : layerL one other signs layer known [] = .ok (k', f')) : BI one other signs (n + 1) f' k' ∧ k'.length = known.length + f'.length := by
  obtain ⟨A, e1, e2, hA, hC, hN⟩ := layerL_ok layer known [] k' f' e
  rw [List.nil_append] at e2
  subst e2
  have step_in : ∀ x ∈ known, ∀ c ∈ signs, stepN one other x c ∈ k' := fun x hx c hc => by
    rcases h.cl x hx with ⟨w, hw⟩ | q
    · exact (hC (w, x) hw c hc).2
    · rw [e1]; exact List.mem_append_left _ (q c hc)
  have el : k'.length = known.length + f'.length := by rw [e1, List.length_append, List.length_map]
  refine ⟨⟨hN h.nd, fun p hp => ?_, fun x hx => ?_, fun x hx => ?_, fun w hw hl => ?_, fun p hp => ?_, ?_⟩, el⟩
  · obtain ⟨q, hq, c, hc, ep, _⟩ := hA p hp
    obtain ⟨l1, l2, l3⟩ := h.lay q hq
    rw [ep]
    refine ⟨by rw [List.length_append, l1]; rfl, l2.snoc hc, ?_⟩
    rw [run_snoc, l3]
  · rw [e1] at hx
    rcases List.mem_append.mp hx with q | q
    · exact h.kn x q
    · obtain ⟨p, hp, ex⟩ := List.mem_map.mp q
      obtain ⟨q, hq, c, hc, ep, hb⟩ := hA p hp
      obtain ⟨l1, l2, l3⟩ := h.lay q hq
      refine ⟨q.1 ++ [c], l2.snoc hc, ?_, by rw [← ex]; exact hb⟩
      rw [run_snoc, l3, ← ex, ep]
  · by_cases hk : x ∈ known
    · exact .inr (step_in x hk)
    · rw [e1] at hx
      rcases List.mem_append.mp hx with q | q
      · exact absurd q hk
      · obtain ⟨p, hp, ex⟩ := List.mem_map.mp q
        exact .inl ⟨p.1, by rw [← ex]; exact hp⟩
  · rcases List.eq_nil_or_concat w with ew | ⟨u, c, ew⟩
    · rw [e1]
      exact List.mem_append_left _ (h.all w hw (by rw [ew]; exact Nat.zero_le _))
    · rw [List.concat_eq_append] at ew
      rw [ew, run_snoc]
      rw [ew] at hw hl
      rw [List.length_append] at hl
      simp only [List.length_cons, List.length_nil] at hl
      exact step_in _ (h.all u (fun d hd => hw d (List.mem_append_left _ hd)) (by omega)) c (hw c (List.mem_append_right _ List.mem_cons_self))
  · rw [e1]
    exact List.mem_append_right _ (List.mem_map.mpr ⟨p, hp, rfl⟩)
  · cases f' with
    | nil => exact .inl rfl
    | cons p ps =>
      rcases h.lv with q | q
      · exact absurd q hne
      · refine .inr ?_
        rw [el, List.length_cons]
        omega
theorem loopL_spec {signs : List Nat} {N : Nat} (hN : ∀ k : List Nd, k.Nodup → (∀ x ∈ k, ∃ w, Over signs w ∧ runN one other w = x ∧ badN one other x = false) → k.length ≤ N) : ∀ (f n : Nat) (layer : Lay) (known : List Nd) (r : Option Tx), BI one other signs n layer known → loopL one other signs f layer known = some r →
    (r = none → ∀ w, Over signs w → badN one other (runN one other w) = false) ∧
    (∀ w, r = some w → Over signs w ∧ badN one other (runN one other w) = true ∧ (∀ v, Over signs v → badN one other (runN one other v) = true → w.length ≤ v.length) ∧ w.length ≤ N)
  | f, n, [], known, r, h, e => by
    have er : r = none := by cases f <;> exact (Option.some.inj e).symm
    have al : ∀ w, Over signs w → runN one other w ∈ known := fun w => by
      suffices hs : ∀ u v : Tx, runN one other v ∈ known → Over signs u → runN one other (v ++ u) ∈ known from fun hw => by
        have := hs w [] (h.all [] (fun _ h => (nomatch h)) (Nat.zero_le _)) hw
        exact this
      intro u
      induction u with
      | nil => intro v hv _; rw [List.append_nil]; exact hv
      | cons c u ih =>
        intro v hv hu
        have e : v ++ c :: u = (v ++ [c]) ++ u := by rw [List.append_assoc]; rfl
        rw [e]
        refine ih _ ?_ fun d hd => hu d (List.mem_cons_of_mem _ hd)
        rw [run_snoc]
        rcases h.cl _ hv with ⟨w', hw'⟩ | q
        · exact nomatch hw'
        · exact q c (hu c List.mem_cons_self)
    refine ⟨fun _ w hw => ?_, fun w ew => by rw [er] at ew; cases ew⟩
    obtain ⟨_, _, _, hb⟩ := h.kn _ (al w hw)
    exact hb
  | 0, n, l :: ls, known, r, h, e => by cases e
  | f + 1, n, l :: ls, known, r, h, e => by
    unfold loopL at e
    cases el : layerL one other signs (l :: ls) known [] with
    | ok q =>
      rw [el] at e
      exact loopL_spec hN f (n + 1) q.2 q.1 r (h.next (fun z => (nomatch z)) el).1 e
    | error w =>
      rw [el] at e
      have er : some w = r := Option.some.inj e
      subst er
      obtain ⟨p, hp, c, hc, ew, hb⟩ := layerL_err _ _ _ w el
      obtain ⟨l1, l2, l3⟩ := h.lay p hp
      refine ⟨fun z => (nomatch z), fun w' z => ?_⟩
      cases z
      rw [ew]
      refine ⟨l2.snoc hc, ?_, fun v hv hbv => ?_, ?_⟩
      · rw [run_snoc, l3]; exact hb
      · rw [List.length_append, l1]
        simp only [List.length_cons, List.length_nil]
        refine Nat.lt_of_not_le fun hl => ?_
        obtain ⟨_, _, _, hb'⟩ := h.kn _ (h.all v hv hl)
        rw [hbv] at hb'
        cases hb'
      · have := hN known h.nd h.kn
        rw [List.length_append, l1]
        simp only [List.length_cons, List.length_nil]
        rcases h.lv with q | q
        · exact nomatch q
        · omega
theorem loopL_some {signs : List Nat} (h1 : OkOs one) (h2 : OkOs other) (g1 : SgOs one) (g2 : SgOs other) (hs : ∀ c ∈ signs, c ∈ SG) : ∀ (f n : Nat) (layer : Lay) (known : List Nd), BI one other signs n layer known →
    nn one * nn other + 1 ≤ f + known.length → ∃ r, loopL one other signs f layer known = some r
  | f, n, [], known, h, hf => ⟨none, by cases f <;> rfl⟩
  | 0, n, l :: ls, known, h, hf => by
    have := known_le h1 h2 g1 g2 known h.nd fun x hx => let ⟨w, a, b, c⟩ := h.kn x hx; ⟨w, fun d hd => hs d (a d hd), b, c⟩
    omega
  | f + 1, n, l :: ls, known, h, hf => by
    unfold loopL
    cases el : layerL one other signs (l :: ls) known [] with
    | error w => exact ⟨some w, rfl⟩
    | ok q =>
      obtain ⟨hb, hl⟩ := h.next (fun z => (nomatch z)) el
      show ∃ r, loopL one other signs f q.2 q.1 = some r
      cases eq : q.2 with
      | nil => exact ⟨none, by cases f <;> rfl⟩
      | cons p ps =>
        rw [← eq]
        refine loopL_some h1 h2 g1 g2 hs f (n + 1) q.2 q.1 hb ?_
        have : 0 < q.2.length := by rw [eq]; exact Nat.succ_pos _
        omega
/-- what first_unlike finds -/
structure FuSpec (one other : List Od) (signs : List Nat) (r : Option Tx) : Prop where
  non : r = none → ∀ w, Over signs w → playedM one w = playedM other w
  som : ∀ w, r = some w → Over signs w ∧ playedM one w ≠ playedM other w ∧ (∀ v, Over signs v → playedM one v ≠ playedM other v → w.length ≤ v.length) ∧ w.length ≤ nn one * nn other
theorem fuS_spec {signs : List Nat} (h1 : OkOs one) (h2 : OkOs other) (g1 : SgOs one) (g2 : SgOs other) (hs : ∀ c ∈ signs, c ∈ SG) : ∃ r, fuS one other signs = some r ∧ FuSpec one other signs r := by
  unfold fuS
  cases hb : badN one other (startN one other) with
  | true =>
    refine ⟨some [], by simp, fun z => (nomatch z), fun w z => ?_⟩
    cases z
    exact ⟨fun _ h => (nomatch h), (bad_iff h1 h2 []).mp hb, fun v _ _ => Nat.zero_le _, Nat.zero_le _⟩
  | false =>
    obtain ⟨r, hr⟩ := loopL_some h1 h2 g1 g2 hs (nn one * nn other + 1) 0 _ _ (BI.start hb) (by simp)
    refine ⟨r, by simpa using hr, ?_⟩
    obtain ⟨a, b⟩ := loopL_spec (N := nn one * nn other) (fun k hn hk => known_le h1 h2 g1 g2 k hn fun x hx => let ⟨w, a, b, c⟩ := hk x hx; ⟨w, fun d hd => hs d (a d hd), b, c⟩) _ 0 _ _ r (BI.start hb) hr
    refine ⟨fun er w hw => ?_, fun w er => ?_⟩
    · have := a er w hw
      exact Classical.byContradiction fun k => by
        rw [(bad_iff h1 h2 w).mpr k] at this
        cases this
    · obtain ⟨b1, b2, b3, b4⟩ := b w er
      exact ⟨b1, (bad_iff h1 h2 w).mp b2, fun v hv k => b3 v hv ((bad_iff h1 h2 v).mpr k), b4⟩
end
end Ev
set_option Elab.async false
set_option linter.all false
namespace Ev

theorem snoc_ind {P : Tx → Prop} (h0 : P []) (h1 : ∀ w c, P w → P (w ++ [c])) (w : Tx) : P w := by
  have h : ∀ u v : Tx, P v → P (v ++ u) := by
    intro u
    induction u with
    | nil => intro v hv; rwa [List.append_nil]
    | cons c u ih =>
      intro v hv
      have e : v ++ c :: u = (v ++ [c]) ++ u := by rw [List.append_assoc]; rfl
      rw [e]
      exact ih _ (h1 v c hv)
  exact h w [] h0
/-! ### least_line, over any nodes -/
section
variable {α : Type} [DecidableEq α] (stp : α → Nat → Option α) (acc : α → Bool)
abbrev LayR (α : Type) := List (Tx × α)
def signR (line : Tx) (nd : α) : List Nat → List α → LayR α → List α × LayR α
  | [], k, f => (k, f)
  | c :: cs, k, f => match stp nd c with
    | none => signR line nd cs k f
    | some a => if a ∈ k then signR line nd cs k f else signR line nd cs (k ++ [a]) (f ++ [(line ++ [c], a)])
def layerR (signs : List Nat) : LayR α → List α → LayR α → List α × LayR α
  | [], k, f => (k, f)
  | p :: r, k, f => layerR signs r (signR stp p.1 p.2 signs k f).1 (signR stp p.1 p.2 signs k f).2
def loopR (signs : List Nat) : Nat → LayR α → List α → Option (Option Tx)
  | _, [], _ => some none
  | 0, l :: ls, _ => match (l :: ls).find? fun p => acc p.2 with
    | some p => some (some p.1)
    | none => none
  | n + 1, l :: ls, k => match (l :: ls).find? fun p => acc p.2 with
    | some p => some (some p.1)
    | none => loopR signs n (layerR stp signs (l :: ls) k []).2 (layerR stp signs (l :: ls) k []).1
def runR (st : α) (w : Tx) : Option α := w.foldl (fun a c => a.bind fun x => stp x c) (some st)
theorem runR_snoc (st : α) (w : Tx) (c : Nat) : runR stp st (w ++ [c]) = (runR stp st w).bind fun x => stp x c := by
  unfold runR
  rw [List.foldl_append]
  rfl
variable {stp acc}
theorem signR_ok {line : Tx} {nd : α} : ∀ (cs : List Nat) (k : List α) (f : LayR α), ∃ A : LayR α, (signR stp line nd cs k f).1 = k ++ A.map (·.2) ∧ (signR stp line nd cs k f).2 = f ++ A ∧
    (∀ q ∈ A, ∃ c ∈ cs, q.1 = line ++ [c] ∧ stp nd c = some q.2) ∧ (∀ c ∈ cs, ∀ a, stp nd c = some a → a ∈ (signR stp line nd cs k f).1) ∧ (k.Nodup → (signR stp line nd cs k f).1.Nodup)
  | [], k, f => ⟨[], by simp [signR], by simp [signR], fun _ hq => (nomatch hq), fun _ hc => (nomatch hc), fun h => h⟩
  | c :: cs, k, f => by
    cases e : stp nd c with
    | none =>
      have eq : signR stp line nd (c :: cs) k f = signR stp line nd cs k f := by
        rw [signR, e]
      rw [eq]
      obtain ⟨A, a1, a2, a3, a4, a5⟩ := signR_ok (line := line) (nd := nd) cs k f
      refine ⟨A, a1, a2, fun q hq => ?_, fun d hd a ha => ?_, a5⟩
      · obtain ⟨d, hd, x⟩ := a3 q hq
        exact ⟨d, List.mem_cons_of_mem _ hd, x⟩
      · rcases List.mem_cons.mp hd with ed | hd
        · rw [ed, e] at ha; cases ha
        · exact a4 d hd a ha
    | some b =>
      by_cases hm : b ∈ k
      · have eq : signR stp line nd (c :: cs) k f = signR stp line nd cs k f := by
          rw [signR, e]
          exact if_pos hm
        rw [eq]
        obtain ⟨A, a1, a2, a3, a4, a5⟩ := signR_ok (line := line) (nd := nd) cs k f
        refine ⟨A, a1, a2, fun q hq => ?_, fun d hd a ha => ?_, a5⟩
        · obtain ⟨d, hd, x⟩ := a3 q hq
          exact ⟨d, List.mem_cons_of_mem _ hd, x⟩
        · rcases List.mem_cons.mp hd with ed | hd
          · rw [ed, e] at ha
            cases ha
            rw [a1]
            exact List.mem_append_left _ hm
          · exact a4 d hd a ha
      · have eq : signR stp line nd (c :: cs) k f = signR stp line nd cs (k ++ [b]) (f ++ [(line ++ [c], b)]) := by
          rw [signR, e]
          exact if_neg hm
        rw [eq]
        obtain ⟨A, a1, a2, a3, a4, a5⟩ := signR_ok (line := line) (nd := nd) cs (k ++ [b]) (f ++ [(line ++ [c], b)])
        refine ⟨(line ++ [c], b) :: A, ?_, ?_, fun q hq => ?_, fun d hd a ha => ?_, fun hn => a5 ?_⟩
        · rw [a1, List.append_assoc]; rfl
        · rw [a2, List.append_assoc]; rfl
        · rcases List.mem_cons.mp hq with eqq | hq
          · rw [eqq]
            exact ⟨c, List.mem_cons_self, rfl, e⟩
          · obtain ⟨d, hd, x⟩ := a3 q hq
            exact ⟨d, List.mem_cons_of_mem _ hd, x⟩
        · rcases List.mem_cons.mp hd with ed | hd
          · rw [ed, e] at ha
            cases ha
            rw [a1]
            exact List.mem_append_left _ (List.mem_append_right _ List.mem_cons_self)
          · exact a4 d hd a ha
        · rw [List.nodup_append]
          refine ⟨hn, by simp, fun x hx y hy => ?_⟩
          rw [List.mem_singleton.mp hy]
          exact fun z => hm (z ▸ hx)
theorem layerR_ok {signs : List Nat} : ∀ (l : LayR α) (k : List α) (f : LayR α), ∃ A : LayR α, (layerR stp signs l k f).1 = k ++ A.map (·.2) ∧ (layerR stp signs l k f).2 = f ++ A ∧
    (∀ q ∈ A, ∃ p ∈ l, ∃ c ∈ signs, q.1 = p.1 ++ [c] ∧ stp p.2 c = some q.2) ∧ (∀ p ∈ l, ∀ c ∈ signs, ∀ a, stp p.2 c = some a → a ∈ (layerR stp signs l k f).1) ∧ (k.Nodup → (layerR stp signs l k f).1.Nodup)
  | [], k, f => ⟨[], by simp [layerR], by simp [layerR], fun _ hq => (nomatch hq), fun _ hc => (nomatch hc), fun h => h⟩
  | p :: l, k, f => by
    obtain ⟨A, a1, a2, a3, a4, a5⟩ := signR_ok (stp := stp) (line := p.1) (nd := p.2) signs k f
    obtain ⟨B, b1, b2, b3, b4, b5⟩ := layerR_ok l (signR stp p.1 p.2 signs k f).1 (signR stp p.1 p.2 signs k f).2
    have eq : layerR stp signs (p :: l) k f = layerR stp signs l (signR stp p.1 p.2 signs k f).1 (signR stp p.1 p.2 signs k f).2 := rfl
    rw [eq]
    refine ⟨A ++ B, ?_, ?_, fun q hq => ?_, fun r hr c hc a ha => ?_, fun hn => b5 (a5 hn)⟩
    · rw [b1, a1, List.map_append, List.append_assoc]
    · rw [b2, a2, List.append_assoc]
    · rcases List.mem_append.mp hq with hq | hq
      · obtain ⟨c, hc, x⟩ := a3 q hq
        exact ⟨p, List.mem_cons_self, c, hc, x⟩
      · obtain ⟨r, hr, x⟩ := b3 q hq
        exact ⟨r, List.mem_cons_of_mem _ hr, x⟩
    · rcases List.mem_cons.mp hr with er | hr
      · rw [er] at ha
        rw [b1]
        exact List.mem_append_left _ (a4 c hc a ha)
      · exact b4 r hr c hc a ha
structure BR (stp : α → Nat → Option α) (acc : α → Bool) (st : α) (signs : List Nat) (n : Nat) (layer : LayR α) (known : List α) : Prop where
  nd : known.Nodup
  lay : ∀ p ∈ layer, p.1.length = n ∧ Over signs p.1 ∧ runR stp st p.1 = some p.2
  kn : ∀ x ∈ known, ∃ w, Over signs w ∧ runR stp st w = some x
  cl : ∀ x ∈ known, (∃ w, (w, x) ∈ layer) ∨ (acc x = false ∧ ∀ c ∈ signs, ∀ a, stp x c = some a → a ∈ known)
  all : ∀ w, Over signs w → w.length ≤ n → ∀ x, runR stp st w = some x → x ∈ known
  low : ∀ w, Over signs w → w.length < n → ∀ x, runR stp st w = some x → acc x = false
  lv : layer = [] ∨ n < known.length
theorem BR.start {st : α} {signs : List Nat} : BR stp acc st signs 0 [([], st)] [st] where
  nd := by simp
  lay := fun p hp => by rw [List.mem_singleton.mp hp]; exact ⟨rfl, fun _ h => (nomatch h), rfl⟩
  kn := fun x hx => ⟨[], fun _ h => (nomatch h), by rw [List.mem_singleton.mp hx]; rfl⟩
  cl := fun x hx => .inl ⟨[], by rw [List.mem_singleton.mp hx]; exact List.mem_singleton.mpr rfl⟩
  all := fun w _ hl x hx => by
    rw [List.eq_nil_of_length_eq_zero (Nat.le_zero.mp hl)] at hx
    cases hx
    exact List.mem_singleton.mpr rfl
  low := fun w _ hl => absurd hl (Nat.not_lt_zero _)
  lv := .inr (Nat.succ_pos 0)
theorem BR.next {st : α} {signs : List Nat} {n : Nat} {layer : LayR α} {known : List α} (h : BR stp acc st signs n layer known) (hne : layer ≠ []) (hno : ∀ p ∈ layer, acc p.2 = false) :
    BR stp acc st signs (n + 1) (layerR stp signs layer known []).2 (layerR stp signs layer known []).1 ∧ (layerR stp signs layer known []).1.length = known.length + (layerR stp signs layer known []).2.length := by
  obtain ⟨A, e1, e2, hA, hC, hN⟩ := layerR_ok (stp := stp) (signs := signs) layer known []
  rw [List.nil_append] at e2
  have step_in : ∀ x ∈ known, acc x = false ∧ ∀ c ∈ signs, ∀ a, stp x c = some a → a ∈ (layerR stp signs layer known []).1 := fun x hx => by
    rcases h.cl x hx with ⟨w, hw⟩ | q
    · exact ⟨hno _ hw, fun c hc a ha => hC (w, x) hw c hc a ha⟩
    · exact ⟨q.1, fun c hc a ha => by rw [e1]; exact List.mem_append_left _ (q.2 c hc a ha)⟩
  have el : (layerR stp signs layer known []).1.length = known.length + (layerR stp signs layer known []).2.length := by rw [e1, e2, List.length_append, List.length_map]
  refine ⟨⟨hN h.nd, fun p hp => ?_, fun x hx => ?_, fun x hx => ?_, fun w hw hl x hx => ?_, fun w hw hl x hx => ?_, ?_⟩, el⟩
  · rw [e2] at hp
    obtain ⟨q, hq, c, hc, ep, es⟩ := hA p hp
    obtain ⟨l1, l2, l3⟩ := h.lay q hq
    rw [ep]
    refine ⟨by rw [List.length_append, l1]; rfl, l2.snoc hc, ?_⟩
    rw [runR_snoc, l3]
    exact es
  · rw [e1] at hx
    rcases List.mem_append.mp hx with q | q
    · exact h.kn x q
    · obtain ⟨p, hp, ex⟩ := List.mem_map.mp q
      obtain ⟨q, hq, c, hc, ep, es⟩ := hA p hp
      obtain ⟨l1, l2, l3⟩ := h.lay q hq
      refine ⟨q.1 ++ [c], l2.snoc hc, ?_⟩
      rw [runR_snoc, l3, ← ex]
      exact es
  · by_cases hk : x ∈ known
    · exact .inr (step_in x hk)
    · rw [e1] at hx
      rcases List.mem_append.mp hx with q | q
      · exact absurd q hk
      · obtain ⟨p, hp, ex⟩ := List.mem_map.mp q
        exact .inl ⟨p.1, by rw [← ex, e2]; exact hp⟩
  · rcases List.eq_nil_or_concat w with ew | ⟨u, c, ew⟩
    · rw [e1]
      exact List.mem_append_left _ (h.all w hw (by rw [ew]; exact Nat.zero_le _) x hx)
    · rw [List.concat_eq_append] at ew
      rw [ew] at hw hl
      rw [ew, runR_snoc] at hx
      rw [List.length_append] at hl
      simp only [List.length_cons, List.length_nil] at hl
      obtain ⟨y, hy, hxy⟩ := Option.bind_eq_some_iff.mp hx
      exact (step_in y (h.all u (fun d hd => hw d (List.mem_append_left _ hd)) (by omega) y hy)).2 c (hw c (List.mem_append_right _ List.mem_cons_self)) x hxy
  · exact (step_in x (h.all w hw (by omega) x hx)).1
  · cases e : (layerR stp signs layer known []).2 with
    | nil => exact .inl rfl
    | cons p ps =>
      rcases h.lv with q | q
      · exact absurd q hne
      · refine .inr ?_
        rw [el, e, List.length_cons]
        omega
theorem loopR_spec {st : α} {signs : List Nat} {N : Nat} (hN : ∀ k : List α, k.Nodup → (∀ x ∈ k, ∃ w, Over signs w ∧ runR stp st w = some x) → k.length ≤ N) :
    ∀ (f n : Nat) (layer : LayR α) (known : List α) (r : Option Tx), BR stp acc st signs n layer known → loopR stp acc signs f layer known = some r →
    (r = none → ∀ w, Over signs w → ∀ x, runR stp st w = some x → acc x = false) ∧
    (∀ w, r = some w → Over signs w ∧ (∃ x, runR stp st w = some x ∧ acc x = true) ∧ (∀ v, Over signs v → ∀ x, runR stp st v = some x → acc x = true → w.length ≤ v.length) ∧ w.length ≤ N)
  | f, n, [], known, r, h, e => by
    have er : r = none := by cases f <;> exact (Option.some.inj e).symm
    have al : ∀ u v : Tx, Over signs u → (∀ x, runR stp st v = some x → x ∈ known) → ∀ x, runR stp st (v ++ u) = some x → x ∈ known := by
      intro u
      induction u with
      | nil => intro v _ hv; rw [List.append_nil]; exact hv
      | cons c u ih =>
        intro v hu hv
        have e : v ++ c :: u = (v ++ [c]) ++ u := by rw [List.append_assoc]; rfl
        rw [e]
        refine ih _ (fun d hd => hu d (List.mem_cons_of_mem _ hd)) fun x hx => ?_
        rw [runR_snoc] at hx
        obtain ⟨y, hy, hxy⟩ := Option.bind_eq_some_iff.mp hx
        rcases h.cl y (hv y hy) with ⟨w', hw'⟩ | q
        · exact nomatch hw'
        · exact q.2 c (hu c List.mem_cons_self) x hxy
    refine ⟨fun _ w hw x hx => ?_, fun w ew => by rw [er] at ew; cases ew⟩
    have hk := al w [] hw (fun x hx => h.all [] (fun _ h => (nomatch h)) (Nat.zero_le _) x hx) x hx
    rcases h.cl x hk with ⟨w', hw'⟩ | q
    · exact nomatch hw'
    · exact q.1
  | f, n, l :: ls, known, r, h, e => by
    cases ef : (l :: ls).find? fun p => acc p.2 with
    | some p =>
      have er : r = some p.1 := by
        cases f <;> (rw [loopR, ef] at e; exact (Option.some.inj e).symm)
      subst er
      have hm := List.mem_of_find?_eq_some ef
      have hp := List.find?_some ef
      obtain ⟨l1, l2, l3⟩ := h.lay p hm
      refine ⟨fun z => (nomatch z), fun w z => ?_⟩
      cases z
      refine ⟨l2, ⟨p.2, l3, hp⟩, fun v hv x hx ha => ?_, ?_⟩
      · rw [l1]
        refine Nat.le_of_not_lt fun hl => ?_
        have := h.low v hv hl x hx
        rw [ha] at this
        cases this
      · have := hN known h.nd h.kn
        rw [l1]
        rcases h.lv with q | q
        · exact nomatch q
        · omega
    | none =>
      have hno : ∀ p ∈ l :: ls, acc p.2 = false := fun p hp => by
        have := List.find?_eq_none.mp ef p hp
        simpa using this
      cases f with
      | zero => rw [loopR, ef] at e; cases e
      | succ f =>
        rw [loopR, ef] at e
        exact loopR_spec hN f (n + 1) _ _ r (h.next (fun z => (nomatch z)) hno).1 e
theorem loopR_some {st : α} {signs : List Nat} {N : Nat} (hN : ∀ k : List α, k.Nodup → (∀ x ∈ k, ∃ w, Over signs w ∧ runR stp st w = some x) → k.length ≤ N) :
    ∀ (f n : Nat) (layer : LayR α) (known : List α), BR stp acc st signs n layer known → N + 1 ≤ f + known.length → ∃ r, loopR stp acc signs f layer known = some r
  | f, n, [], known, h, hf => ⟨none, by cases f <;> rfl⟩
  | 0, n, l :: ls, known, h, hf => by
    have := hN known h.nd h.kn
    omega
  | f + 1, n, l :: ls, known, h, hf => by
    cases ef : (l :: ls).find? fun p => acc p.2 with
    | some p => exact ⟨some p.1, by rw [loopR, ef]⟩
    | none =>
      have hno : ∀ p ∈ l :: ls, acc p.2 = false := fun p hp => by
        have := List.find?_eq_none.mp ef p hp
        simpa using this
      obtain ⟨hb, hl⟩ := h.next (fun z => (nomatch z)) hno
      rw [loopR, ef]
      dsimp only
      cases eq : (layerR stp signs (l :: ls) known []).2 with
      | nil => exact ⟨none, by cases f <;> rfl⟩
      | cons p ps =>
        rw [← eq]
        refine loopR_some hN f (n + 1) _ _ hb ?_
        have : 0 < (layerR stp signs (l :: ls) known []).2.length := by rw [eq]; exact Nat.succ_pos _
        omega
end

/-! ### the machines in it -/
abbrev Nr := List Ms × Tx
section
variable (os : List Od) (g : Tx → Tx → Option Tx) (ok : Tx → Tx → Bool)
def stepR (nd : Nr) (c : Nat) : Option Nr := (g nd.2 (pushM os nd.1 [c]).2).map fun h => ((pushM os nd.1 [c]).1, h)
def accR (nd : Nr) : Bool := ok nd.2 (endM os nd.1)
def llM (b : Tx) (signs : List Nat) (N : Nat) : Option (Option Tx) := match g b (begM os []).2 with
  | none => some none
  | some h => loopR (stepR os g) (accR os ok) signs (N + 1) [([], ((begM os []).1, h))] [((begM os []).1, h)]
/-- the states behind a line, what was given out so far -/
def cfg (w : Tx) : List Ms × Tx := w.foldl (fun p c => ((pushM os p.1 [c]).1, p.2 ++ (pushM os p.1 [c]).2)) (begM os [])
theorem cfg_snoc (w : Tx) (c : Nat) : cfg os (w ++ [c]) = ((pushM os (cfg os w).1 [c]).1, (cfg os w).2 ++ (pushM os (cfg os w).1 [c]).2) := by
  unfold cfg
  rw [List.foldl_append]
  rfl
variable {os}
theorem cfg_says (h : OkOs os) (w : Tx) : OkSs os (cfg os w).1 ∧ ∀ y, playedM os (w ++ y) = (cfg os w).2 ++ psemM os (cfg os w).1 y := by
  suffices hs : ∀ (u : Tx) (p : List Ms × Tx) (w : Tx), (OkSs os p.1 ∧ ∀ y, playedM os (w ++ y) = p.2 ++ psemM os p.1 y) →
      (OkSs os (u.foldl (fun p c => ((pushM os p.1 [c]).1, p.2 ++ (pushM os p.1 [c]).2)) p).1 ∧ ∀ y, playedM os ((w ++ u) ++ y) = (u.foldl (fun p c => ((pushM os p.1 [c]).1, p.2 ++ (pushM os p.1 [c]).2)) p).2 ++ psemM os (u.foldl (fun p c => ((pushM os p.1 [c]).1, p.2 ++ (pushM os p.1 [c]).2)) p).1 y) from
    hs w (begM os []) [] ⟨okSs_beg os [] h, fun y => played_beg os [] y h⟩
  intro u
  induction u with
  | nil => intro p w hp; rw [List.append_nil]; exact hp
  | cons c u ih =>
    intro p w hp
    have e : w ++ c :: u = (w ++ [c]) ++ u := by rw [List.append_assoc]; rfl
    rw [e]
    refine ih _ _ ⟨okSs_push os p.1 [c] h hp.1, fun y => ?_⟩
    have ey : (w ++ [c]) ++ y = w ++ ([c] ++ y) := List.append_assoc _ _ _
    rw [ey, hp.2, psem_append os p.1 [c] y hp.1, List.append_assoc]
theorem played_cfg (h : OkOs os) (w : Tx) : playedM os w = (cfg os w).2 ++ endM os (cfg os w).1 := by
  have := (cfg_says h w).2 []
  rwa [List.append_nil] at this
theorem sg_cfg (g1 : SgOs os) (w : Tx) (hw : AllSg w) : SgSs (cfg os w).1 := by
  suffices hs : ∀ (u : Tx) (p : List Ms × Tx), AllSg u → SgSs p.1 → SgSs (u.foldl (fun p c => ((pushM os p.1 [c]).1, p.2 ++ (pushM os p.1 [c]).2)) p).1 from hs w _ hw (sg_beg os [] g1 AllSg.nil).1
  intro u
  induction u with
  | nil => exact fun p _ h => h
  | cons c u ih =>
    intro p hu hp
    exact ih _ (fun d hd => hu d (List.mem_cons_of_mem _ hd)) (sg_push os p.1 [c] g1 hp (AllSg.one (hu c List.mem_cons_self))).1
variable {g ok}
theorem run_cfg {h0 : Tx} : ∀ (w : Tx) (x : Nr), runR (stepR os g) ((begM os []).1, h0) w = some x → x.1 = (cfg os w).1 := by
  intro w
  refine snoc_ind (P := fun w => ∀ x, runR (stepR os g) ((begM os []).1, h0) w = some x → x.1 = (cfg os w).1) ?_ ?_ w
  · intro x hx; cases hx; rfl
  · intro w c ih x hx
    rw [runR_snoc] at hx
    obtain ⟨y, hy, hxy⟩ := Option.bind_eq_some_iff.mp hx
    unfold stepR at hxy
    obtain ⟨h, _, e⟩ := Option.map_eq_some_iff.mp hxy
    rw [← e, cfg_snoc, ih y hy]
end
end Ev
set_option Elab.async false
set_option linter.all false
namespace Ev
/-! ### source -/
def srcG (rest out : Tx) : Option Tx := if out.isPrefixOf rest then some (rest.drop out.length) else none
def srcOk (rest e : Tx) : Bool := decide (rest = e)
def srcM (os : List Od) (line : Tx) : Option (Option Tx) := llM os srcG srcOk line (signsM os line 1) (nn os * (line.length + 1))
theorem srcG_some {rest out h : Tx} (e : srcG rest out = some h) : rest = out ++ h := by
  unfold srcG at e
  split at e
  · rename_i hp
    cases e
    obtain ⟨t, ht⟩ := List.isPrefixOf_iff_prefix.mp hp
    rw [← ht, List.drop_left' rfl]
  · cases e
theorem srcG_none {rest out : Tx} (e : srcG rest out = none) (y : Tx) : rest ≠ out ++ y := by
  intro k
  unfold srcG at e
  split at e
  · cases e
  · rename_i hp
    exact hp (List.isPrefixOf_iff_prefix.mpr ⟨y, k.symm⟩)
theorem src_run {os : List Od} {line h0 : Tx} (e0 : srcG line (begM os []).2 = some h0) (w : Tx) :
    (∀ x, runR (stepR os srcG) ((begM os []).1, h0) w = some x → line = (cfg os w).2 ++ x.2) ∧ (runR (stepR os srcG) ((begM os []).1, h0) w = none → ∀ y, line ≠ (cfg os w).2 ++ y) := by
  refine snoc_ind (P := fun w => (∀ x, runR (stepR os srcG) ((begM os []).1, h0) w = some x → line = (cfg os w).2 ++ x.2) ∧ (runR (stepR os srcG) ((begM os []).1, h0) w = none → ∀ y, line ≠ (cfg os w).2 ++ y)) ?_ ?_ w
  · refine ⟨fun x hx => ?_, fun hx => ?_⟩
    · cases hx
      exact srcG_some e0
    · cases hx
  · intro w c ih
    rw [runR_snoc, cfg_snoc]
    cases er : runR (stepR os srcG) ((begM os []).1, h0) w with
    | none =>
      refine ⟨fun x hx => (nomatch hx), fun _ y k => ?_⟩
      refine ih.2 er ((pushM os (cfg os w).1 [c]).2 ++ y) ?_
      rw [← List.append_assoc]
      exact k
    | some z =>
      have hz := ih.1 z er
      have ez := run_cfg w z er
      show (∀ x, stepR os srcG z c = some x → _) ∧ (stepR os srcG z c = none → _)
      unfold stepR
      rw [ez]
      cases eg : srcG z.2 (pushM os (cfg os w).1 [c]).2 with
      | none =>
        refine ⟨fun x hx => (nomatch hx), fun _ y k => ?_⟩
        rw [hz, List.append_assoc] at k
        exact srcG_none eg y (List.append_cancel_left k)
      | some h =>
        refine ⟨fun x hx => ?_, fun hx => (nomatch hx)⟩
        cases hx
        rw [hz, srcG_some eg, List.append_assoc]
/-- what least_line finds, P the lines looked for -/
structure LlSpec (signs : List Nat) (N : Nat) (P : Tx → Prop) (r : Option Tx) : Prop where
  non : r = none → ∀ w, Over signs w → ¬ P w
  som : ∀ w, r = some w → Over signs w ∧ P w ∧ (∀ v, Over signs v → P v → w.length ≤ v.length) ∧ w.length ≤ N
theorem rows_le {os : List Od} (h1 : OkOs os) (g1 : SgOs os) {g : Tx → Tx → Option Tx} {h0 : Tx} {signs : List Nat} (hs : ∀ c ∈ signs, c ∈ SG) (U : List Tx)
    (hU : ∀ w, AllSg w → ∀ x, runR (stepR os g) ((begM os []).1, h0) w = some x → x.2 ∈ U) (k : List Nr) (hn : k.Nodup) (hk : ∀ x ∈ k, ∃ w, Over signs w ∧ runR (stepR os g) ((begM os []).1, h0) w = some x) : k.length ≤ nn os * U.length := by
  have e : ((prods os).flatMap fun s => U.map fun t => ((s, t) : Nr)).length = nn os * U.length := by
    rw [length_flatMap_const _ U.length _ fun s _ => by rw [List.length_map], prods_len]
  rw [← e]
  refine nodup_le k _ hn fun x hx => ?_
  obtain ⟨w, hw, er⟩ := hk x hx
  have hw' : AllSg w := fun c hc => hs c (hw c hc)
  refine List.mem_flatMap.mpr ⟨x.1, ?_, List.mem_map.mpr ⟨x.2, hU w hw' x er, rfl⟩⟩
  rw [run_cfg w x er]
  exact prods_mem os _ h1 (cfg_says h1 w).1 (sg_cfg g1 w hw')
theorem src_spec {os : List Od} (h1 : OkOs os) (g1 : SgOs os) (line : Tx) : ∃ r, srcM os line = some r ∧ LlSpec (signsM os line 1) (nn os * (line.length + 1)) (fun w => playedM os w = line) r := by
  unfold srcM llM
  cases e0 : srcG line (begM os []).2 with
  | none =>
    refine ⟨none, rfl, fun _ w hw k => ?_, fun w e => (nomatch e)⟩
    have := played_beg os [] w h1
    rw [show [] ++ w = w from rfl] at this
    rw [this] at k
    exact srcG_none e0 _ k.symm
  | some h0 =>
    dsimp only
    have hN := fun k hn hk => rows_le h1 g1 (g := srcG) (h0 := h0) (signs := signsM os line 1) (signs_sg os line 1) ((List.range (line.length + 1)).map fun i => line.drop i) (fun w _ x hx => by
      have := (src_run e0 w).1 x hx
      refine List.mem_map.mpr ⟨(cfg os w).2.length, List.mem_range.mpr ?_, ?_⟩
      · rw [this, List.length_append]; omega
      · rw [this, List.drop_left' rfl]) k hn hk
    rw [List.length_map, List.length_range] at hN
    obtain ⟨r, hr⟩ := loopR_some (acc := accR os srcOk) hN (nn os * (line.length + 1) + 1) 0 _ _ BR.start (by simp)
    refine ⟨r, hr, ?_⟩
    obtain ⟨a, b⟩ := loopR_spec hN _ 0 _ _ r BR.start hr
    have key : ∀ w, (∃ x, runR (stepR os srcG) ((begM os []).1, h0) w = some x ∧ accR os srcOk x = true) ↔ playedM os w = line := fun w => by
      constructor
      · rintro ⟨x, hx, ha⟩
        have e1 := (src_run e0 w).1 x hx
        have e2 : x.2 = endM os x.1 := of_decide_eq_true ha
        rw [played_cfg h1, ← run_cfg w x hx, ← e2]
        exact e1.symm
      · intro hp
        rw [played_cfg h1] at hp
        cases er : runR (stepR os srcG) ((begM os []).1, h0) w with
        | none => exact absurd hp.symm ((src_run e0 w).2 er _)
        | some x =>
          refine ⟨x, rfl, ?_⟩
          have e1 := (src_run e0 w).1 x er
          rw [← hp] at e1
          unfold accR srcOk
          rw [run_cfg w x er]
          exact decide_eq_true (List.append_cancel_left e1).symm
    refine ⟨fun er w hw hp => ?_, fun w er => ?_⟩
    · obtain ⟨x, hx, ha⟩ := (key w).mpr hp
      rw [a er w hw x hx] at ha
      cases ha
    · obtain ⟨b1, b2, b3, b4⟩ := b w er
      refine ⟨b1, (key w).mp b2, fun v hv hp => ?_, b4⟩
      obtain ⟨x, hx, ha⟩ := (key v).mpr hp
      exact b3 v hv x hx ha
/-! ### shows -/
def infB (w : Tx) : Tx → Bool
  | [] => w.isPrefixOf []
  | c :: r => w.isPrefixOf (c :: r) || infB w r
theorem infB_iff {w : Tx} : ∀ {t : Tx}, infB w t = true ↔ w <:+: t
  | [] => by
    unfold infB
    rw [List.isPrefixOf_iff_prefix, List.prefix_nil, List.infix_nil]
  | c :: r => by
    unfold infB
    rw [Bool.or_eq_true, List.isPrefixOf_iff_prefix, infB_iff, List.infix_cons_iff]
def showT (word text : Tx) : Tx := if infB word text then word else (shiftM word (text.drop (text.length + 1 - word.length))).1
def showG (word held out : Tx) : Option Tx := some (showT word (held ++ out))
def showOk (word held e : Tx) : Bool := infB word (held ++ e)
def showM (os : List Od) (word : Tx) : Option (Option Tx) := llM os (showG word) (showOk word) [] (signsM os word 1) (nn os * (word.length + 1))
theorem inf_drop {word : Tx} {c : Nat} {r : Tx} (h : ¬ word <+: c :: r) : word <:+: c :: r ↔ word <:+: r := by
  rw [List.infix_cons_iff]
  exact ⟨fun k => k.elim (fun z => absurd z h) id, .inr⟩
theorem trimA {word : Tx} : ∀ (k : Nat) (t : Tx), ¬ word <:+: t → k + word.length ≤ t.length + 1 → ∀ y, word <:+: t ++ y ↔ word <:+: t.drop k ++ y
  | 0, t, _, _, y => Iff.rfl
  | k + 1, [], hn, hk, y => Iff.rfl
  | k + 1, c :: r, hn, hk, y => by
    simp only [List.length_cons] at hk
    have hp : ¬ word <+: (c :: r) ++ y := fun z => by
      have : word <+: c :: r := List.prefix_of_prefix_length_le z (List.prefix_append _ _) (by simp only [List.length_cons]; omega)
      exact hn this.isInfix
    have hr : ¬ word <:+: r := fun z => hn (List.infix_cons_iff.mpr (.inr z))
    have e1 : word <:+: (c :: r) ++ y ↔ word <:+: r ++ y := inf_drop hp
    rw [e1]
    exact trimA k r hr (by omega) y
theorem trimB {word : Tx} : ∀ (s : Tx), s.length < word.length → ∀ y, word <:+: s ++ y ↔ word <:+: (shiftM word s).1 ++ y
  | [], _, y => Iff.rfl
  | c :: r, hl, y => by
    unfold shiftM
    split
    · exact Iff.rfl
    · rename_i hp
      simp only [List.length_cons] at hl
      have h1 : ¬ word <+: (c :: r) ++ y := fun z => hp (List.isPrefixOf_iff_prefix.mpr (List.prefix_of_prefix_length_le (List.prefix_append _ _) z (by simp only [List.length_cons]; omega)))
      have e1 : word <:+: (c :: r) ++ y ↔ word <:+: r ++ y := inf_drop h1
      rw [e1]
      exact trimB r (by omega) y
theorem showT_inf {word : Tx} (hw : word ≠ []) (text y : Tx) : word <:+: text ++ y ↔ word <:+: showT word text ++ y := by
  unfold showT
  split
  · rename_i h
    have h' := infB_iff.mp h
    exact ⟨fun _ => (List.prefix_append word y).isInfix, fun _ => h'.trans (List.prefix_append text y).isInfix⟩
  · rename_i h
    have h' : ¬ word <:+: text := fun z => h (infB_iff.mpr z)
    have h0 : 0 < word.length := List.length_pos_iff.mpr hw
    by_cases hl : word.length ≤ text.length + 1
    · rw [trimA (text.length + 1 - word.length) text h' (by omega) y]
      exact trimB _ (by rw [List.length_drop]; omega) y
    · rw [show text.length + 1 - word.length = 0 by omega]
      exact trimB text (by omega) y
theorem showT_pre (word text : Tx) : showT word text <+: word := by
  unfold showT
  split
  · exact List.prefix_refl _
  · exact List.isPrefixOf_iff_prefix.mp (shiftM_pre word _)
theorem show_run {os : List Od} {word : Tx} (hw : word ≠ []) (w : Tx) : ∃ x, runR (stepR os (showG word)) ((begM os []).1, showT word ([] ++ (begM os []).2)) w = some x ∧ x.2 <+: word ∧ ∀ y, word <:+: (cfg os w).2 ++ y ↔ word <:+: x.2 ++ y := by
  refine snoc_ind (P := fun w => ∃ x, runR (stepR os (showG word)) ((begM os []).1, showT word ([] ++ (begM os []).2)) w = some x ∧ x.2 <+: word ∧ ∀ y, word <:+: (cfg os w).2 ++ y ↔ word <:+: x.2 ++ y) ?_ ?_ w
  · exact ⟨_, rfl, showT_pre _ _, fun y => showT_inf hw (begM os []).2 y⟩
  · rintro w c ⟨x, hx, _, hi⟩
    refine ⟨((pushM os (cfg os w).1 [c]).1, showT word (x.2 ++ (pushM os (cfg os w).1 [c]).2)), ?_, showT_pre _ _, fun y => ?_⟩
    · rw [runR_snoc, hx]
      show stepR os (showG word) x c = _
      unfold stepR
      rw [run_cfg w x hx]
      rfl
    · rw [cfg_snoc]
      show word <:+: ((cfg os w).2 ++ (pushM os (cfg os w).1 [c]).2) ++ y ↔ _
      rw [List.append_assoc, hi, ← List.append_assoc]
      exact showT_inf hw _ y
theorem show_spec {os : List Od} (h1 : OkOs os) (g1 : SgOs os) (word : Tx) (hw : word ≠ []) : ∃ r, showM os word = some r ∧ LlSpec (signsM os word 1) (nn os * (word.length + 1)) (fun w => word <:+: playedM os w) r := by
  unfold showM llM
  show ∃ r, loopR (stepR os (showG word)) (accR os (showOk word)) (signsM os word 1) (nn os * (word.length + 1) + 1) [([], ((begM os []).1, showT word ([] ++ (begM os []).2)))] [((begM os []).1, showT word ([] ++ (begM os []).2))] = some r ∧ _
  have hN := fun k hn hk => rows_le h1 g1 (g := showG word) (h0 := showT word ([] ++ (begM os []).2)) (signs := signsM os word 1) (signs_sg os word 1) ((List.range (word.length + 1)).map fun i => word.take i) (fun w _ x hx => by
    obtain ⟨z, hz, hp, _⟩ := show_run (os := os) hw w
    rw [hz] at hx
    cases hx
    refine List.mem_map.mpr ⟨x.2.length, List.mem_range.mpr (Nat.lt_succ_of_le hp.length_le), ?_⟩
    exact (List.prefix_iff_eq_take.mp hp).symm) k hn hk
  rw [List.length_map, List.length_range] at hN
  obtain ⟨r, hr⟩ := loopR_some (acc := accR os (showOk word)) hN (nn os * (word.length + 1) + 1) 0 _ _ BR.start (by simp)
  refine ⟨r, hr, ?_⟩
  obtain ⟨a, b⟩ := loopR_spec hN _ 0 _ _ r BR.start hr
  have key : ∀ w x, runR (stepR os (showG word)) ((begM os []).1, showT word ([] ++ (begM os []).2)) w = some x → (accR os (showOk word) x = true ↔ word <:+: playedM os w) := fun w x hx => by
    obtain ⟨z, hz, _, hi⟩ := show_run (os := os) hw w
    rw [hz] at hx
    cases hx
    unfold accR showOk
    rw [infB_iff, played_cfg h1, run_cfg w x hz]
    exact (hi _).symm
  refine ⟨fun er w hw' hp => ?_, fun w er => ?_⟩
  · obtain ⟨x, hx, _⟩ := show_run (os := os) hw w
    have := a er w hw' x hx
    rw [(key w x hx).mpr hp] at this
    cases this
  · obtain ⟨b1, ⟨x, hx, ha⟩, b3, b4⟩ := b w er
    refine ⟨b1, (key w x hx).mp ha, fun v hv hp => ?_, b4⟩
    obtain ⟨z, hz, _⟩ := show_run (os := os) hw v
    exact b3 v hv z hz ((key v z hz).mpr hp)
end Ev
set_option Elab.async false
set_option linter.all false
namespace Ev
open PySem.StrLaws (replL replS replL_nil replL_hit replL_miss)
/-! ### signs renamed -/
def mapO (ρ : Nat → Nat) : Od → Od
  | .rep o n => .rep (o.map ρ) (n.map ρ)
  | .front w => .front (w.map ρ)
  | .back w => .back (w.map ρ)
  | .first n => .first n
  | .last n => .last n
  | .letters ps => .letters (ps.map fun p => (ρ p.1, ρ p.2))
/-- what is named is told from everything -/
def Sep (ρ : Nat → Nat) (named : Tx) : Prop := ∀ a ∈ named, ∀ x ∈ SG, ρ x = ρ a → x = a
theorem Sep.sub {ρ : Nat → Nat} {m n : Tx} (h : Sep ρ n) (k : ∀ a ∈ m, a ∈ n) : Sep ρ m := fun a ha => h a (k a ha)
theorem map_sep {ρ : Nat → Nat} : ∀ {u o : Tx}, Sep ρ o → AllSg u → u.map ρ = o.map ρ → u = o
  | [], [], _, _, _ => rfl
  | [], _ :: _, _, _, e => by cases e
  | _ :: _, [], _, _, e => by cases e
  | a :: u, b :: o, hs, hu, e => by
    simp only [List.map_cons, List.cons.injEq] at e
    have e1 := hs b List.mem_cons_self a (hu a List.mem_cons_self) e.1
    rw [e1, map_sep (hs.sub fun x hx => List.mem_cons_of_mem _ hx) (fun x hx => hu x (List.mem_cons_of_mem _ hx)) e.2]
theorem rep_map {ρ : Nat → Nat} (o n : Tx) (hs : Sep ρ o) : ∀ (x : Tx) (k : Nat), AllSg x → replS (o.map ρ) (n.map ρ) k (x.map ρ) = (replS o n k x).map ρ
  | [], k, _ => by cases k <;> rfl
  | c :: r, 0, hx => by
    have hr : AllSg r := fun d hd => hx d (List.mem_cons_of_mem _ hd)
    show replS (o.map ρ) (n.map ρ) 0 (ρ c :: r.map ρ) = _
    rw [replS, replS, List.length_map]
    by_cases h : (c :: r).take o.length = o
    · have h' : (ρ c :: r.map ρ).take o.length = o.map ρ := by
        rw [← List.map_cons, ← List.map_take, h]
      rw [if_pos h, if_pos h', List.map_append, rep_map o n hs r _ hr]
    · have h' : ¬ (ρ c :: r.map ρ).take o.length = o.map ρ := fun e => by
        rw [← List.map_cons, ← List.map_take] at e
        exact h (map_sep hs (hx.sub fun d hd => List.mem_of_mem_take hd) e)
      rw [if_neg h, if_neg h', List.map_cons, rep_map o n hs r _ hr]
  | c :: r, k + 1, hx => by
    have hr : AllSg r := fun d hd => hx d (List.mem_cons_of_mem _ hd)
    show replS (o.map ρ) (n.map ρ) (k + 1) (ρ c :: r.map ρ) = _
    rw [replS, replS, rep_map o n hs r _ hr]
theorem subst_map {ρ : Nat → Nat} {c : Nat} (hc : c ∈ SG) : ∀ (ps : List (Nat × Nat)), (∀ p ∈ ps, ∀ x ∈ SG, ρ x = ρ p.1 → x = p.1) → subst1 (ps.map fun p => (ρ p.1, ρ p.2)) (ρ c) = ρ (subst1 ps c)
  | [], _ => rfl
  | (a, b) :: ps, h => by
    have ih := subst_map hc ps fun p hp => h p (List.mem_cons_of_mem _ hp)
    unfold subst1 at ih ⊢
    rw [List.map_cons, List.lookup_cons, List.lookup_cons]
    by_cases e : c = a
    · subst e
      simp
    · have e2 : ¬ ρ c = ρ a := fun z => e (h (a, b) List.mem_cons_self c hc z)
      have e3 : (ρ c == ρ a) = false := beq_eq_false_iff_ne.mpr e2
      have e4 : (c == a) = false := beq_eq_false_iff_ne.mpr e
      simp only [e3, e4]
      exact ih
theorem done_map {ρ : Nat → Nat} (o : Od) (hs : Sep ρ (namedM o)) (x : Tx) (hx : AllSg x) : doneM (mapO ρ o) (x.map ρ) = (doneM o x).map ρ := by
  cases o with
  | rep o n => exact rep_map o n (hs.sub fun a ha => List.mem_append_left _ ha) x 0 hx
  | front w => exact (List.map_append).symm
  | back w => exact (List.map_append).symm
  | first n => exact (List.map_drop).symm
  | last n =>
    show (x.map ρ).take ((x.map ρ).length - n) = (x.take (x.length - n)).map ρ
    rw [List.length_map, List.map_take]
  | letters ps =>
    show (x.map ρ).map (subst1 (ps.map fun p => (ρ p.1, ρ p.2))) = (x.map (subst1 ps)).map ρ
    rw [List.map_map, List.map_map]
    refine List.map_congr_left fun c hc => ?_
    exact subst_map (hx c hc) ps fun p hp => hs p.1 (List.mem_flatMap.mpr ⟨p, hp, List.mem_cons_self⟩)
theorem played_map {ρ : Nat → Nat} : ∀ (os : List Od) (x : Tx), SgOs os → Sep ρ (namedsM os) → AllSg x → playedM (os.map (mapO ρ)) (x.map ρ) = (playedM os x).map ρ
  | [], _, _, _, _ => rfl
  | o :: os, x, ho, hs, hx => by
    show playedM (os.map (mapO ρ)) (doneM (mapO ρ o) (x.map ρ)) = (playedM os (doneM o x)).map ρ
    rw [done_map o (hs.sub fun a ha => List.mem_append_left _ ha) x hx]
    exact played_map os _ ho.tail (hs.sub fun a ha => List.mem_append_right _ ha) (sg_done o ho.head x hx)
theorem map_fix {ρ : Nat → Nat} {w : Tx} (h : ∀ a ∈ w, ρ a = a) : w.map ρ = w := by
  conv => rhs; rw [← List.map_id w]
  exact List.map_congr_left fun a ha => h a ha
theorem mapO_fix {ρ : Nat → Nat} (o : Od) (h : ∀ a ∈ namedM o, ρ a = a) : mapO ρ o = o := by
  cases o with
  | rep o n =>
    show Od.rep (o.map ρ) (n.map ρ) = _
    rw [map_fix fun a ha => h a (List.mem_append_left _ ha), map_fix fun a ha => h a (List.mem_append_right _ ha)]
  | front w => show Od.front (w.map ρ) = _; rw [map_fix (w := w) h]
  | back w => show Od.back (w.map ρ) = _; rw [map_fix (w := w) h]
  | first n => rfl
  | last n => rfl
  | letters ps =>
    show Od.letters (ps.map fun p => (ρ p.1, ρ p.2)) = _
    have e : (ps.map fun p => (ρ p.1, ρ p.2)) = ps.map id := List.map_congr_left fun p hp => by
      have h1 := h p.1 (List.mem_flatMap.mpr ⟨p, hp, List.mem_cons_self⟩)
      have h2 := h p.2 (List.mem_flatMap.mpr ⟨p, hp, List.mem_cons_of_mem _ List.mem_cons_self⟩)
      rw [h1, h2]
      rfl
    rw [e, List.map_id]
theorem mapOs_fix {ρ : Nat → Nat} (os : List Od) (h : ∀ a ∈ namedsM os, ρ a = a) : os.map (mapO ρ) = os := by
  have e : os.map (mapO ρ) = os.map id := List.map_congr_left fun o ho => mapO_fix o fun a ha => h a (List.mem_flatMap.mpr ⟨o, ho, ha⟩)
  rw [e, List.map_id]
/-! ### two more signs are enough -/
def ren (named : Tx) (s p q c : Nat) : Nat := if c ∈ named then c else if c = s then p else q
theorem ren_named {named : Tx} {s p q c : Nat} (h : c ∈ named) : ren named s p q c = c := if_pos h
theorem ren_out {named : Tx} {s p q c : Nat} (h : c ∉ named) : ren named s p q c = p ∨ ren named s p q c = q := by
  unfold ren
  rw [if_neg h]
  split
  · exact .inl rfl
  · exact .inr rfl
theorem ren_sep {named : Tx} {s p q : Nat} (hp : p ∉ named) (hq : q ∉ named) : Sep (ren named s p q) named := fun a ha x _ e => by
  rw [ren_named ha] at e
  by_cases hx : x ∈ named
  · rwa [ren_named hx] at e
  · rcases ren_out (s := s) (p := p) (q := q) hx with r | r
    · rw [r] at e; rw [e] at hp; exact absurd ha hp
    · rw [r] at e; rw [e] at hq; exact absurd ha hq
theorem ren_parts {named : Tx} {p q : Nat} (hp : p ∉ named) (hq : q ∉ named) (hpq : p ≠ q) : ∀ f g : Tx, f ≠ g → ∃ s, f.map (ren named s p q) ≠ g.map (ren named s p q)
  | [], [], h => absurd rfl h
  | [], _ :: _, _ => ⟨0, fun e => by cases e⟩
  | _ :: _, [], _ => ⟨0, fun e => by cases e⟩
  | a :: f, b :: g, h => by
    by_cases e : a = b
    · subst e
      obtain ⟨s, hs⟩ := ren_parts hp hq hpq f g fun z => h (by rw [z])
      exact ⟨s, fun z => hs (by simp only [List.map_cons, List.cons.injEq] at z; exact z.2)⟩
    · refine ⟨a, fun z => ?_⟩
      simp only [List.map_cons, List.cons.injEq] at z
      have z1 := z.1
      by_cases ha : a ∈ named
      · rw [ren_named ha] at z1
        by_cases hb : b ∈ named
        · rw [ren_named hb] at z1; exact e z1
        · rcases ren_out (s := a) (p := p) (q := q) hb with r | r
          · rw [r] at z1; rw [z1] at ha; exact hp ha
          · rw [r] at z1; rw [z1] at ha; exact hq ha
      · have ea : ren named a p q a = p := by unfold ren; rw [if_neg ha, if_pos rfl]
        rw [ea] at z1
        by_cases hb : b ∈ named
        · rw [ren_named hb] at z1; rw [z1] at hp; exact hp hb
        · have eb : ren named a p q b = q := by unfold ren; rw [if_neg hb, if_neg (fun k => e k.symm)]
          rw [eb] at z1
          exact hpq z1
theorem others_mem {named : Tx} {c : Nat} : c ∈ othersM named ↔ c ∈ SG ∧ c ∉ named := by
  unfold othersM
  rw [List.mem_filter]
  simp
theorem others_nodup (named : Tx) : (othersM named).Nodup := by
  unfold othersM
  exact List.Pairwise.filter _ (by decide : SG.Nodup)
theorem signs_named {os : List Od} {w : Tx} {m : Nat} {c : Nat} (hc : c ∈ w ++ namedsM os) (hs : c ∈ SG) : c ∈ signsM os w m := by
  unfold signsM
  rw [List.mem_filter]
  refine ⟨hs, ?_⟩
  rw [Bool.or_eq_true]
  exact .inl (by simpa using hc)
theorem signs_other {os : List Od} {w : Tx} {m : Nat} {c : Nat} (hc : c ∈ (othersM (w ++ namedsM os)).take m) : c ∈ signsM os w m := by
  unfold signsM
  rw [List.mem_filter]
  refine ⟨(others_mem.mp (List.mem_of_mem_take hc)).1, ?_⟩
  rw [Bool.or_eq_true]
  exact .inr (by simpa using hc)
theorem alphabet2 {one other : List Od} (g1 : SgOs one) (g2 : SgOs other) (h2 : 2 ≤ (othersM (namedsM (one ++ other))).length) {v : Tx} (hv : AllSg v) (hd : playedM one v ≠ playedM other v) :
    ∃ u, Over (signsM (one ++ other) [] 2) u ∧ u.length = v.length ∧ playedM one u ≠ playedM other u := by
  have g := g1.append g2
  obtain ⟨p, q, r, er⟩ : ∃ p q r, othersM (namedsM (one ++ other)) = p :: q :: r := by
    match h : othersM (namedsM (one ++ other)), h2 with
    | p :: q :: r, _ => exact ⟨p, q, r, rfl⟩
    | [_], h2 => simp at h2
    | [], h2 => simp at h2
  have nd := others_nodup (namedsM (one ++ other))
  rw [er] at nd
  have hpq : p ≠ q := fun e => (List.nodup_cons.mp nd).1 (by rw [e]; exact List.mem_cons_self)
  have mp := others_mem.mp (show p ∈ othersM (namedsM (one ++ other)) by rw [er]; exact List.mem_cons_self)
  have mq := others_mem.mp (show q ∈ othersM (namedsM (one ++ other)) by rw [er]; exact List.mem_cons_of_mem _ List.mem_cons_self)
  obtain ⟨s, hs⟩ := ren_parts mp.2 mq.2 hpq _ _ hd
  have sep := ren_sep (s := s) mp.2 mq.2
  have n1 : ∀ a ∈ namedsM one, a ∈ namedsM (one ++ other) := fun a ha => by
    unfold namedsM
    rw [List.flatMap_append]
    exact List.mem_append_left _ ha
  have n2 : ∀ a ∈ namedsM other, a ∈ namedsM (one ++ other) := fun a ha => by
    unfold namedsM
    rw [List.flatMap_append]
    exact List.mem_append_right _ ha
  have e1 := played_map one v g1 (sep.sub n1) hv
  have e2 := played_map other v g2 (sep.sub n2) hv
  rw [mapOs_fix one fun a ha => ren_named (n1 a ha)] at e1
  rw [mapOs_fix other fun a ha => ren_named (n2 a ha)] at e2
  refine ⟨v.map (ren (namedsM (one ++ other)) s p q), fun c hc => ?_, List.length_map _, by rw [e1, e2]; exact hs⟩
  obtain ⟨d, hd', ed⟩ := List.mem_map.mp hc
  by_cases hn : d ∈ namedsM (one ++ other)
  · rw [ren_named hn] at ed
    rw [← ed]
    exact signs_named (w := []) hn (g d hn)
  · have tk : (othersM ([] ++ namedsM (one ++ other))).take 2 = [p, q] := by
      show (othersM (namedsM (one ++ other))).take 2 = _
      rw [er]; rfl
    rcases ren_out (s := s) (p := p) (q := q) hn with r' | r'
    · refine signs_other ?_
      rw [tk, ← ed, r']
      exact List.mem_cons_self
    · refine signs_other ?_
      rw [tk, ← ed, r']
      exact List.mem_cons_of_mem _ List.mem_cons_self
/-- one more sign is enough where a text is looked for -/
theorem alphabet1 {os : List Od} {word : Tx} (g : SgOs os) (gw : AllSg word) (h1 : 1 ≤ (othersM (word ++ namedsM os)).length) {v : Tx} (hv : AllSg v) :
    ∃ (u : Tx) (ρ : Nat → Nat), Over (signsM os word 1) u ∧ u.length = v.length ∧ playedM os u = (playedM os v).map ρ ∧ word.map ρ = word := by
  obtain ⟨p, r, er⟩ : ∃ p r, othersM (word ++ namedsM os) = p :: r := by
    match h : othersM (word ++ namedsM os), h1 with
    | p :: r, _ => exact ⟨p, r, rfl⟩
    | [], h1 => simp at h1
  have mp := others_mem.mp (show p ∈ othersM (word ++ namedsM os) by rw [er]; exact List.mem_cons_self)
  have sep := ren_sep (s := 0) mp.2 mp.2
  have n1 : ∀ a ∈ namedsM os, a ∈ word ++ namedsM os := fun a ha => List.mem_append_right _ ha
  have e1 := played_map os v g (sep.sub n1) hv
  rw [mapOs_fix os fun a ha => ren_named (n1 a ha)] at e1
  refine ⟨v.map (ren (word ++ namedsM os) 0 p p), ren (word ++ namedsM os) 0 p p, fun c hc => ?_, List.length_map _, e1, map_fix fun a ha => ren_named (List.mem_append_left _ ha)⟩
  obtain ⟨d, hd', ed⟩ := List.mem_map.mp hc
  by_cases hn : d ∈ word ++ namedsM os
  · rw [ren_named hn] at ed
    rw [← ed]
    refine signs_named hn ?_
    exact (List.mem_append.mp hn).elim (gw d) (g d)
  · have tk : (othersM (word ++ namedsM os)).take 1 = [p] := by rw [er]; rfl
    refine signs_other ?_
    rw [tk, ← ed]
    rcases ren_out (s := 0) (p := p) (q := p) hn with r' | r' <;> rw [r'] <;> exact List.mem_cons_self
/-! ### what is told of all lines -/
def Alike (one other : List Od) : Prop := ∀ w, AllSg w → playedM one w = playedM other w
structure FuFull (one other : List Od) (r : Option Tx) : Prop where
  non : r = none → Alike one other
  som : ∀ w, r = some w → AllSg w ∧ playedM one w ≠ playedM other w ∧ (∀ v, AllSg v → playedM one v ≠ playedM other v → w.length ≤ v.length) ∧ w.length ≤ nn one * nn other
theorem fuM_full {one other : List Od} (h1 : OkOs one) (h2 : OkOs other) (g1 : SgOs one) (g2 : SgOs other) (ho : 2 ≤ (othersM (namedsM (one ++ other))).length) : ∃ r, fuM one other = some r ∧ FuFull one other r := by
  obtain ⟨r, er, sp⟩ := fuS_spec h1 h2 g1 g2 (signs_sg (one ++ other) [] 2)
  refine ⟨r, er, fun e w hw => ?_, fun w e => ?_⟩
  · refine Classical.byContradiction fun k => ?_
    obtain ⟨u, hu, _, hd⟩ := alphabet2 g1 g2 ho hw k
    exact hd (sp.non e u hu)
  · obtain ⟨a, b, c, d⟩ := sp.som w e
    refine ⟨fun x hx => signs_sg _ _ _ x (a x hx), b, fun v hv hd => ?_, d⟩
    obtain ⟨u, hu, hl, hd'⟩ := alphabet2 g1 g2 ho hv hd
    rw [← hl]
    exact c u hu hd'
theorem FuFull.iff {one other : List Od} {r : Option Tx} (h : FuFull one other r) : r = none ↔ Alike one other := by
  refine ⟨h.non, fun a => ?_⟩
  cases e : r with
  | none => rfl
  | some w =>
    obtain ⟨b, c, _⟩ := h.som w e
    exact absurd (a w b) c
structure LlFull (N : Nat) (P : Tx → Prop) (r : Option Tx) : Prop where
  non : r = none → ∀ w, AllSg w → ¬ P w
  som : ∀ w, r = some w → AllSg w ∧ P w ∧ (∀ v, AllSg v → P v → w.length ≤ v.length) ∧ w.length ≤ N
theorem LlSpec.full {os : List Od} {word : Tx} {N : Nat} {P : Tx → Prop} {r : Option Tx} (h : LlSpec (signsM os word 1) N P r) (al : ∀ v, AllSg v → P v → ∃ u, Over (signsM os word 1) u ∧ u.length = v.length ∧ P u) : LlFull N P r := by
  refine ⟨fun e w hw k => ?_, fun w e => ?_⟩
  · obtain ⟨u, hu, _, hp⟩ := al w hw k
    exact h.non e u hu hp
  · obtain ⟨a, b, c, d⟩ := h.som w e
    refine ⟨fun x hx => signs_sg _ _ _ x (a x hx), b, fun v hv hp => ?_, d⟩
    obtain ⟨u, hu, hl, hp'⟩ := al v hv hp
    rw [← hl]
    exact c u hu hp'
theorem srcM_full {os : List Od} (h : OkOs os) (g : SgOs os) {line : Tx} (gl : AllSg line) (ho : 1 ≤ (othersM (line ++ namedsM os)).length) : ∃ r, srcM os line = some r ∧ LlFull (nn os * (line.length + 1)) (fun w => playedM os w = line) r := by
  obtain ⟨r, er, sp⟩ := src_spec h g line
  refine ⟨r, er, sp.full fun v hv hp => ?_⟩
  obtain ⟨u, ρ, a, b, c, d⟩ := alphabet1 g gl ho hv
  exact ⟨u, a, b, by rw [c, hp, d]⟩
theorem map_infix {ρ : Nat → Nat} {x y : Tx} (h : x <:+: y) : x.map ρ <:+: y.map ρ := by
  obtain ⟨a, b, e⟩ := h
  exact ⟨a.map ρ, b.map ρ, by rw [← List.map_append, ← List.map_append, e]⟩
theorem showM_full {os : List Od} (h : OkOs os) (g : SgOs os) {word : Tx} (gl : AllSg word) (hw : word ≠ []) (ho : 1 ≤ (othersM (word ++ namedsM os)).length) : ∃ r, showM os word = some r ∧ LlFull (nn os * (word.length + 1)) (fun w => word <:+: playedM os w) r := by
  obtain ⟨r, er, sp⟩ := show_spec h g word hw
  refine ⟨r, er, sp.full fun v hv hp => ?_⟩
  obtain ⟨u, ρ, a, b, c, d⟩ := alphabet1 g gl ho hv
  refine ⟨u, a, b, ?_⟩
  rw [c, ← d]
  exact map_infix hp
/-! ### the signs exchanged -/
structure Ren (π : Nat → Nat) : Prop where
  into : ∀ c ∈ SG, π c ∈ SG
  inj : ∀ c ∈ SG, ∀ d ∈ SG, π c = π d → c = d
  sur : ∀ c ∈ SG, ∃ d ∈ SG, π d = c
theorem Ren.sep {π : Nat → Nat} (h : Ren π) {n : Tx} (hn : AllSg n) : Sep π n := fun a ha x hx e => h.inj x hx a (hn a ha) e
theorem Ren.line {π : Nat → Nat} (h : Ren π) : ∀ v : Tx, AllSg v → ∃ u, AllSg u ∧ u.map π = v
  | [], _ => ⟨[], AllSg.nil, rfl⟩
  | c :: v, hv => by
    obtain ⟨d, hd, e⟩ := h.sur c (hv c List.mem_cons_self)
    obtain ⟨u, hu, eu⟩ := h.line v fun x hx => hv x (List.mem_cons_of_mem _ hx)
    exact ⟨d :: u, (AllSg.one hd).app hu, by rw [List.map_cons, e, eu]⟩
theorem Ren.all {π : Nat → Nat} (h : Ren π) {v : Tx} (hv : AllSg v) : AllSg (v.map π) := fun c hc => by
  obtain ⟨d, hd, e⟩ := List.mem_map.mp hc
  rw [← e]
  exact h.into d (hv d hd)
theorem Ren.eq {π : Nat → Nat} (h : Ren π) {u v : Tx} (hu : AllSg u) (hv : AllSg v) (e : u.map π = v.map π) : u = v := map_sep (h.sep hv) hu e
theorem Ren.played {π : Nat → Nat} (h : Ren π) {os : List Od} (g : SgOs os) {x : Tx} (hx : AllSg x) : playedM (os.map (mapO π)) (x.map π) = (playedM os x).map π := played_map os x g (h.sep g) hx
theorem Ren.parts {π : Nat → Nat} (h : Ren π) {one other : List Od} (g1 : SgOs one) (g2 : SgOs other) {x : Tx} (hx : AllSg x) : playedM (one.map (mapO π)) (x.map π) ≠ playedM (other.map (mapO π)) (x.map π) ↔ playedM one x ≠ playedM other x := by
  rw [h.played g1 hx, h.played g2 hx]
  exact ⟨fun k e => k (by rw [e]), fun k e => k (h.eq (sg_played one x g1 hx) (sg_played other x g2 hx) e)⟩
def szM (r : Option Tx) : Option Nat := r.map List.length
theorem szM_none {r : Option Tx} : szM r = none ↔ r = none := by cases r <;> simp [szM]
/-- least lines go along, by their lengths -/
theorem size_of {P P' : Tx → Prop} {r r' : Option Tx} (n1 : r = none → ∀ w, AllSg w → ¬ P w) (s1 : ∀ w, r = some w → AllSg w ∧ P w ∧ (∀ v, AllSg v → P v → w.length ≤ v.length))
    (n2 : r' = none → ∀ w, AllSg w → ¬ P' w) (s2 : ∀ w, r' = some w → AllSg w ∧ P' w ∧ (∀ v, AllSg v → P' v → w.length ≤ v.length))
    (a : ∀ w, AllSg w → P w → ∃ u, AllSg u ∧ u.length = w.length ∧ P' u) (b : ∀ w, AllSg w → P' w → ∃ u, AllSg u ∧ u.length = w.length ∧ P u) : szM r = szM r' := by
  cases e : r with
  | none => cases e' : r' with
    | none => rfl
    | some w' =>
      obtain ⟨h1, h2, _⟩ := s2 w' e'
      obtain ⟨u, hu, _, hp⟩ := b w' h1 h2
      exact absurd hp (n1 e u hu)
  | some w => cases e' : r' with
    | none =>
      obtain ⟨h1, h2, _⟩ := s1 w e
      obtain ⟨u, hu, _, hp⟩ := a w h1 h2
      exact absurd hp (n2 e' u hu)
    | some w' =>
      obtain ⟨h1, h2, h3⟩ := s1 w e
      obtain ⟨k1, k2, k3⟩ := s2 w' e'
      obtain ⟨u, hu, hl, hp⟩ := a w h1 h2
      obtain ⟨u', hu', hl', hp'⟩ := b w' k1 k2
      have q1 := k3 u hu hp
      have q2 := h3 u' hu' hp'
      show some w.length = some w'.length
      rw [show w.length = w'.length by omega]
theorem fu_exch {π : Nat → Nat} (h : Ren π) {one other : List Od} (g1 : SgOs one) (g2 : SgOs other) {r r' : Option Tx} (s : FuFull one other r) (s' : FuFull (one.map (mapO π)) (other.map (mapO π)) r') : szM r = szM r' := by
  refine size_of (P := fun w => playedM one w ≠ playedM other w) (P' := fun w => playedM (one.map (mapO π)) w ≠ playedM (other.map (mapO π)) w) (fun e w hw k => k (s.non e w hw)) (fun w e => let ⟨a, b, c, _⟩ := s.som w e; ⟨a, b, c⟩)
    (fun e w hw k => k (s'.non e w hw)) (fun w e => let ⟨a, b, c, _⟩ := s'.som w e; ⟨a, b, c⟩) (fun w hw k => ⟨w.map π, h.all hw, List.length_map _, (h.parts g1 g2 hw).mpr k⟩) (fun w hw k => ?_)
  obtain ⟨u, hu, e⟩ := h.line w hw
  refine ⟨u, hu, by rw [← e, List.length_map], ?_⟩
  rw [← e] at k
  exact (h.parts g1 g2 hu).mp k
theorem src_exch {π : Nat → Nat} (h : Ren π) {os : List Od} (g : SgOs os) {line : Tx} (gl : AllSg line) {N N' : Nat} {r r' : Option Tx} (s : LlFull N (fun w => playedM os w = line) r) (s' : LlFull N' (fun w => playedM (os.map (mapO π)) w = line.map π) r') : szM r = szM r' := by
  refine size_of (fun e w hw k => s.non e w hw k) (fun w e => let ⟨a, b, c, _⟩ := s.som w e; ⟨a, b, c⟩) (fun e w hw k => s'.non e w hw k) (fun w e => let ⟨a, b, c, _⟩ := s'.som w e; ⟨a, b, c⟩)
    (fun w hw k => ⟨w.map π, h.all hw, List.length_map _, by rw [h.played g hw, show playedM os w = line from k]⟩) (fun w hw k => ?_)
  obtain ⟨u, hu, e⟩ := h.line w hw
  refine ⟨u, hu, by rw [← e, List.length_map], ?_⟩
  have k' : playedM (os.map (mapO π)) w = line.map π := k
  rw [← e, h.played g hu] at k'
  exact h.eq (sg_played os u g hu) gl k'
theorem infix_back {π : Nat → Nat} (h : Ren π) {x y : Tx} (hx : AllSg x) (hy : AllSg y) (k : x.map π <:+: y.map π) : x <:+: y := by
  obtain ⟨a, b, e⟩ := k
  have e1 : y.map π = a ++ (x.map π ++ b) := by rw [← e, List.append_assoc]
  obtain ⟨y1, y2, ey, e2, e3⟩ := List.map_eq_append_iff.mp e1
  obtain ⟨y3, y4, ey2, e4, e5⟩ := List.map_eq_append_iff.mp e3
  have h3 : AllSg y3 := hy.sub fun c hc => by rw [ey, ey2]; exact List.mem_append_right _ (List.mem_append_left _ hc)
  have := h.eq h3 hx e4
  exact ⟨y1, y4, by rw [ey, ey2, this, List.append_assoc]⟩
theorem show_exch {π : Nat → Nat} (h : Ren π) {os : List Od} (g : SgOs os) {word : Tx} (gl : AllSg word) {N N' : Nat} {r r' : Option Tx} (s : LlFull N (fun w => word <:+: playedM os w) r) (s' : LlFull N' (fun w => word.map π <:+: playedM (os.map (mapO π)) w) r') : szM r = szM r' := by
  refine size_of (fun e w hw k => s.non e w hw k) (fun w e => let ⟨a, b, c, _⟩ := s.som w e; ⟨a, b, c⟩) (fun e w hw k => s'.non e w hw k) (fun w e => let ⟨a, b, c, _⟩ := s'.som w e; ⟨a, b, c⟩)
    (fun w hw k => ⟨w.map π, h.all hw, List.length_map _, by rw [h.played g hw]; exact map_infix k⟩) (fun w hw k => ?_)
  obtain ⟨u, hu, e⟩ := h.line w hw
  refine ⟨u, hu, by rw [← e, List.length_map], ?_⟩
  have k' : word.map π <:+: playedM (os.map (mapO π)) w := k
  rw [← e, h.played g hu] at k'
  exact infix_back h gl (sg_played os u g hu) k'
/-! ### how many signs are left -/
theorem others_many {named L : Tx} (h : ∀ c ∈ named, c ∈ L) : 27 ≤ (othersM named).length + L.length := by
  have e : SG.length = (othersM named).length + (SG.filter fun c => named.contains c).length := by
    unfold othersM
    have := List.length_eq_countP_add_countP (fun c => !named.contains c) (l := SG)
    rw [List.countP_eq_length_filter, List.countP_eq_length_filter] at this
    rw [this]
    congr 2
    refine List.filter_congr fun x _ => ?_
    simp
  have l : (SG.filter fun c => named.contains c).length ≤ L.length := nodup_le _ _ (List.Pairwise.filter _ (by decide : SG.Nodup)) fun c hc => by
    have := (List.mem_filter.mp hc).2
    exact h c (by simpa using this)
  have : SG.length = 27 := rfl
  omega
/-! ### the known pairs, the idle orders -/
theorem rep1 (a b : Nat) (x : Tx) : replL [a] [b] x = x.map (subst1 [(a, b)]) := by
  induction x with
  | nil => exact replL_nil
  | cons c r ih =>
    by_cases e : c = a
    · subst e
      rw [replL_hit (y := [c]) (z := [b]) (by simp) (by simp)]
      show [b] ++ replL [c] [b] r = _
      rw [ih, List.map_cons]
      simp [subst1, List.lookup]
    · rw [replL_miss (y := [a]) (z := [b]) (c := c) (r := r) (by simpa using e), ih, List.map_cons]
      have : subst1 [(a, b)] c = c := by
        unfold subst1
        have e2 : (c == a) = false := beq_eq_false_iff_ne.mpr e
        simp [List.lookup, e2]
      rw [this]
theorem subst_same (a : Nat) (x : Tx) : x.map (subst1 [(a, a)]) = x := by
  have : x.map (subst1 [(a, a)]) = x.map id := List.map_congr_left fun c _ => by
    unfold subst1
    by_cases e : c = a
    · subst e; simp [List.lookup]
    · have e2 : (c == a) = false := beq_eq_false_iff_ne.mpr e
      simp [List.lookup, e2]
  rw [this, List.map_id]
def Idle1 (o : Od) : Prop := ∀ x, doneM o x = x
theorem idle_first : Idle1 (.first 0) := fun x => rfl
theorem idle_back : Idle1 (.back []) := fun x => List.append_nil x
theorem idle_rep (a : Nat) : Idle1 (.rep [a] [a]) := fun x => (rep1 a a x).trans (subst_same a x)
theorem idle_letters (a : Nat) : Idle1 (.letters [(a, a)]) := fun x => subst_same a x
theorem idle_in {o : Od} (h : Idle1 o) (a b : List Od) (x : Tx) : playedM (a ++ [o] ++ b) x = playedM (a ++ b) x := by
  rw [playedM_append, playedM_append, playedM_append]
  show playedM b (doneM o (playedM a x)) = _
  rw [h]
theorem pair_front (w o x : Tx) : playedM [.front w, .front o] x = playedM [.front (o ++ w)] x := by
  show o ++ (w ++ x) = (o ++ w) ++ x
  rw [List.append_assoc]
theorem pair_back (w o x : Tx) : playedM [.back w, .back o] x = playedM [.back (w ++ o)] x := by
  show (x ++ w) ++ o = x ++ (w ++ o)
  rw [List.append_assoc]
theorem pair_first {n : Nat} (h : n ≤ 2) (x : Tx) : playedM [.first n, .first (2 - n)] x = playedM [.first 2] x := by
  show (x.drop n).drop (2 - n) = x.drop 2
  rw [List.drop_drop, show n + (2 - n) = 2 by omega]
theorem pair_ends (n m : Nat) (x : Tx) : playedM [.first n, .last m] x = playedM [.last m, .first n] x := by
  show (x.drop n).take ((x.drop n).length - m) = (x.take (x.length - m)).drop n
  rw [List.drop_take, List.length_drop]
  congr 1
  omega
theorem pair_letter (a b : Nat) (x : Tx) : playedM [.rep [a] [b]] x = playedM [.letters [(a, b)]] x := rep1 a b x
theorem pair_ring (x : Tx) : playedM [.letters [(97, 98), (98, 99), (99, 97)], .letters [(98, 97), (99, 98), (97, 99)]] x = playedM [] x := by
  show (x.map _).map _ = x
  rw [List.map_map]
  conv => rhs; rw [← List.map_id x]
  refine List.map_congr_left fun c _ => ?_
  show subst1 _ (subst1 _ c) = c
  unfold subst1
  by_cases e1 : c = 97
  · subst e1; rfl
  by_cases e2 : c = 98
  · subst e2; rfl
  by_cases e3 : c = 99
  · subst e3; rfl
  have f1 : (c == 97) = false := beq_eq_false_iff_ne.mpr e1
  have f2 : (c == 98) = false := beq_eq_false_iff_ne.mpr e2
  have f3 : (c == 99) = false := beq_eq_false_iff_ne.mpr e3
  simp [List.lookup, f1, f2, f3]
end Ev
set_option Elab.async false
set_option linter.all false
set_option maxRecDepth 100000
namespace Ev
open PySem PySem.Spec PyProof.Rows L2 Evl
/-! ### the text -/
def top (i : Nat) : Stmt := PySem.Challenge.pw_everrow_k45_whole_orders_put_together.main.body.getD i (.Pass ⟨0, 0, 0, 0⟩)
/-- a text from its signs -/
abbrev S (l : Tx) : Str := ⟨l.toArray⟩
theorem S_inj {a b : Tx} (h : S a = S b) : a = b := by
  have := congrArg (fun s : Str => s.cps.toList) h
  simpa using this
theorem S_len (a : Tx) : (S a).length = a.length := by simp [Str.length]
theorem S_list (a : Tx) : (S a).cps.toList = a := by simp
theorem S_app (a b : Tx) : S a ++ S b = S (a ++ b) := by
  have h : ((S a ++ S b : Str)).cps.toList = (S (a ++ b)).cps.toList := by
    show ((S a).cps ++ (S b).cps).toList = _
    simp
  have : (S a ++ S b : Str).cps = (S (a ++ b)).cps := Array.toList_inj.mp h
  cases hx : (S a ++ S b : Str) with
  | mk c =>
    rw [hx] at this
    exact congrArg Str.mk this
theorem S_nil : (S []) = ("" : Str) := by rfl
abbrev st (l : Tx) : V := .str (S l)
/-! ### where a def stands; its promise -/
def At (K : PySem.W.Frag) (mg : Str → Option Value) (i : Nat) (x : Str) : Prop :=
  ∃ (f : Addr) (fd : FuncData), FunD K x x (defArgs (top i)) (defBody (top i)) (defScope (top i)) [] [] f fd ∧ mg x = some (.ref f)
structure Df (P : Program) (w : World) (K : PySem.W.Frag) (mg : Str → Option Value) (base : Heap) (k : Nat) (x : Str) (ps : List Str) (sp : Sp) : Prop where
  ex : ∃ (f : Addr) (fd : FuncData), FnOk P w K mg base CX0 k f fd ps sp ∧ mg x = some (.ref f) ∧ PySem.W.keepIn K (.ref f) = true ∧ Binds K fd ps [] ∧ ∃ i, FunD K x x (defArgs (top i)) (defBody (top i)) (defScope (top i)) [] [] f fd
section
variable {P : Program} {w : World} {K : PySem.W.Frag} {mg : Str → Option Value} {base : Heap} {x : Str} {ps N : List Str} {sp : Sp} {k j i : Nat}
theorem Df.mono (D : Df P w K mg base j x ps sp) (h : j ≤ k) : Df P w K mg base k x ps sp := by
  obtain ⟨f, fd, F, a, b, c, d⟩ := D.ex
  exact ⟨f, fd, F.mono h, a, b, c, d⟩
theorem Df.made (F : At K mg i x) (Sc : FnScope N ps (defScope (top i)))
    (hb : ∀ (kV doc pm : Value) (an : Option Addr) (cdv ct : Value) (us : List Value), us.length = ps.length → bindArgs (PySem.W.fnOf x x (defArgs (top i)) (defBody (top i)) (defScope (top i)) .none kV doc pm an cdv ct) ⟨us, []⟩ = pure (ps.zip us))
    (len : ∀ vs H Q E, sp vs H Q E → vs.length = ps.length)
    (hbody : ∀ (f : Addr) (cdv : Value) (A : Around) (outer : List Env) (s : Shared) (H : Hp) (vs : List V) (Q : VK) (E : XK), Room k (A.deeper (envOfC x (defScope (top i)) s.heap.objs.size f cdv)) → sp vs H Q E →
      ∃ t, PSs (cxOf CX0 P w K mg base N x (defScope (top i)) f cdv A outer s H E).nox (defBody (top i)) t ∧ t { nx := fun _ H' => Q .non H', rt := Q } (start N vs) H) : Df P w K mg base (k + 1) x ps sp := by
  obtain ⟨f, fd, F, g⟩ := F
  refine ⟨f, fd, F.ok Sc len fun cdv A outer s H vs Q E hr h => ?_, g, F.kp, F.bindsN hb, i, F⟩
  obtain ⟨t, h1, h2⟩ := hbody f cdv A outer s H vs Q E hr h
  exact ⟨t, h1.nox, h2⟩
end
section
variable {X : Cx} {k j : Nat} {x : Str} {ps : List Str} {sp : Sp} {p pos : Pos} {e : Expr} {es : List Expr} {t : TA}
theorem pe_df (D : Df X.prog X.w X.K X.mg X.base k x ps sp) (hr : Room j X.A) (hk : k ≤ j) (hg : Gl X x) (ha : PA X (e :: es) t) (hdb : (x == ("__debug__" : Str)) = false := by decide)
    (he : starEach (e :: es) X.env = (false, eval e X.env) :: starEach es X.env := by rfl) (hpl : (backTo pos (starEach es X.env)).any (·.1) = false := by rfl) : PE X (.Call (.Name x p) (e :: es) [] pos) (tCall sp [] E0 t) := by
  obtain ⟨f, fd, F, g, kp, b, _⟩ := D.ex
  exact pe_call F (hr.mono hk) hg g kp b .nil pass0 ha hdb he hpl
theorem pe_df0 (D : Df X.prog X.w X.K X.mg X.base k x ps sp) (hr : Room j X.A) (hk : k ≤ j) (hg : Gl X x) (hdb : (x == ("__debug__" : Str)) = false := by decide) : PE X (.Call (.Name x p) [] [] pos) (tCall sp [] E0 tNil) := by
  obtain ⟨f, fd, F, g, kp, b, _⟩ := D.ex
  exact pe_call0 F (hr.mono hk) hg g kp b .nil pass0 hdb
end
/-- the built-in names that the text uses, its one constant -/
structure Gb (mg : Str → Option Value) : Prop where
  len : mg "len" = none
  isi : mg "isinstance" = none
  str : mg "str" = none
  tup : mg "tuple" = none
  lst : mg "list" = none
  int : mg "int" = none
  bool : mg "bool" = none
  set : mg "set" = none
  zip : mg "zip" = none
  rng : mg "range" = none
  max : mg "max" = none
  min : mg "min" = none
  ls : ∃ t, mg "LINE_SIGNS" = some (.str " abcdefghijklmnopqrstuvwxyz" t)
theorem ls_S : (" abcdefghijklmnopqrstuvwxyz" : Str) = S SG := by decide +kernel
/-! ### evaluation, a few more shapes -/
section
variable {K : PySem.W.Frag} {σ : L2.St} {H H' : Hp} {ta tb te tc tx : TE} {t u : TT} {x y z v : V} {r r' : R2}
theorem ev_chain {z' : V} {b : Bool} (ha : Ev ta σ H x) (hb : Ev tb σ H y) (hr : RV r x y H (.bl b)) (hc : b = true → Ev tc σ H z) (hr' : b = true → RV r' y z H z') (hf : b = false → z' = .bl false) : Ev (tChain r r' ta tb tc) σ H z' := fun H1 e Q q =>
  ha H1 e _ fun H2 e2 => hb H2 (e.trans e2) _ fun H3 e3 => hr H3 ((e.trans e2).trans e3) _ fun H4 e4 => ⟨b, rfl, by
    cases b with
    | true =>
      rw [if_pos rfl]
      exact hc rfl H4 (((e.trans e2).trans e3).trans e4) _ fun H5 e5 => hr' rfl H5 ((((e.trans e2).trans e3).trans e4).trans e5) Q fun H6 e6 => q H6 ((((e2.trans e3).trans e4).trans e5).trans e6)
    | false =>
      rw [if_neg Bool.false_ne_true, ← hf rfl]
      exact q H4 ((e2.trans e3).trans e4)⟩
/-- isinstance(x, T), T a built-in class -/
theorem rc_isi {ty c : String} {b : Bool} (hx : ∀ H1, Ex H H1 → TyX K H1 x (.type ty)) (hk : kitB ty c = some b) : RC (rIsi K) [x, .ty c] H (.bl b) := fun H1 e Q q => ⟨x, .ty c, _, _, b, rfl, .ty c, hx H1 e, kit_ty hk, q H1 (Ex.refl H1)⟩
theorem ev_tyc {ta tb : TE} (ha : Ev ta σ H x) (hb : Ev tb σ H y) {r : List V → Hp → VK → Prop} (h : RC r [x, y] H z) : Ev (tCB r (tCons ta (tCons tb tNil))) σ H z := ev_cb (ea_cons ha (ea_cons hb ea_nil)) h
def SpU (sp : Sp) (vs : List V) (H : Hp) (xs : List V) : Prop := ∀ H1, Ex H H1 → ∀ Q : VK, (∀ p H2, H1 p = none → Ex H1 H2 → H2 p = some (.tup xs) → Q (.ref p) H2) → ∀ E : XK, sp vs H1 Q E
theorem eu_call {sp : Sp} {dvs vs xs : List V} {E : XK} {ta : TA} (h : EvA ta σ H vs) (hs : SpU sp (vs ++ dvs) H xs) : EvU (tCall sp dvs E ta) σ H xs := fun H1 e Q q =>
  h H1 e _ fun H2 e2 => hs H2 (e.trans e2) Q (fun p H3 hp e3 h3 => q p H3 (fresh_back e2 hp) (e2.trans e3) h3) E
/-- the promises' third shape: a new tuple -/
def RetU (xs : List V) (H : Hp) (Q : VK) : Prop := ∀ p H2, H p = none → Ex H H2 → H2 p = some (.tup xs) → Q (.ref p) H2
theorem spv_of {sp : Sp} {vs : List V} (h : ∀ H1, Ex H H1 → ∀ Q E, RetV z H1 Q → sp vs H1 Q E) : SpV sp vs H z := fun H1 e Q q E => h H1 e Q E q
theorem spu_of {sp : Sp} {vs xs : List V} (h : ∀ H1, Ex H H1 → ∀ Q E, RetU xs H1 Q → sp vs H1 Q E) : SpU sp vs H xs := fun H1 e Q q E => h H1 e Q E q
theorem spl_of {sp : Sp} {vs xs : List V} (h : ∀ H1, Ex H H1 → ∀ Q E, RetL xs H1 Q → sp vs H1 Q E) : SpL sp vs H xs := fun H1 e Q q E => h H1 e Q E q
theorem el_is {xs ys : List V} (h : EvL te σ H xs) (e : xs = ys) : EvL te σ H ys := e ▸ h
theorem eu_is {xs ys : List V} (h : EvU te σ H xs) (e : xs = ys) : EvU te σ H ys := e ▸ h
/-- a comprehension over a text -/
theorem el_lcS {x : Tx} {tl : TE} {j : Nat} {vs : List Nat} (f : Nat → Bool) (v : Nat → V) (h : Ev tl σ H (st x)) (hz : x.length ≤ 40000) (hw : ∀ c, wipe ((wipe σ vs).set j (some c)) vs = wipe σ vs)
    (ht : ∀ (i c : Nat) H1, Ex H H1 → x[i]? = some c → EvT t ((wipe σ vs).set j (some (st [c]))) H1 (f i)) (he : ∀ (i c : Nat) H1, Ex H H1 → x[i]? = some c → f i = true → Ev te ((wipe σ vs).set j (some (st [c]))) H1 (v i)) :
    EvL (tLc (iStr tl) (gName j) t te vs) σ H (given x.length f v) := fun H0 e Q q => h H0 e _ fun H1 e1 => ⟨S x, rfl, fun Dl hD => by
  have hsz : (S x).cps.size = x.length := by simp
  refine lc_it walk_str (Cw H1 f v Dl) ⟨hD, Ex.new hD, upd_same⟩ (fun _ _ _ _ => True.intro) (fun i y H2 H' hi p hy => ?_) (fun H' p => ?_)
  · obtain ⟨rfl, c, hc, rfl⟩ := hy
    have hc' : x[i]? = some c := by simpa using hc
    rw [hsz] at hi
    exact ⟨hw _, cw_turn p (by omega) (ht i c H1 (e.trans e1) hc') (fun hf => he i c H1 (e.trans e1) hc' hf)⟩
  · rw [hsz] at p
    exact q Dl H' (fresh_back e1 p.1) (e1.trans p.2.1) p.2.2⟩
theorem given_none {n : Nat} {f : Nat → Bool} {v : Nat → V} (h : ∀ i, i < n → f i = false) : given n f v = [] := by
  unfold given
  rw [List.map_eq_nil_iff, List.filter_eq_nil_iff]
  intro i hi
  rw [h i (List.mem_range.mp hi)]
  exact Bool.false_ne_true
theorem given_all {n : Nat} {f : Nat → Bool} {v : Nat → V} (h : ∀ i, i < n → f i = true) : given n f v = (List.range n).map v := by
  unfold given
  rw [List.filter_eq_self.mpr fun i hi => h i (List.mem_range.mp hi)]
/-- two lists as data -/
theorem rv_eqD {d d' : PyData} {b : Bool} (hx : ∀ H1, Ex H H1 → Dp K H1 x d) (hy : ∀ H1, Ex H H1 → Dp K H1 y d') (s1 : SeqAt.shaped d = true) (s2 : SeqAt.shaped d' = true) (e : PyData.eqv d d' = b) : RV (rEqD K) x y H (.bl b) := fun H1 h1 Q q =>
  ⟨d, d', hx H1 h1, hy H1 h1, s1, s2, by rw [e]; exact q H1 (Ex.refl H1)⟩
theorem rv_neD {d d' : PyData} {b : Bool} (hx : ∀ H1, Ex H H1 → Dp K H1 x d) (hy : ∀ H1, Ex H H1 → Dp K H1 y d') (s1 : SeqAt.shaped d = true) (s2 : SeqAt.shaped d' = true) (e : (!PyData.eqv d d') = b) : RV (rNeD K) x y H (.bl b) := fun H1 h1 Q q =>
  ⟨d, d', hx H1 h1, hy H1 h1, s1, s2, by rw [e]; exact q H1 (Ex.refl H1)⟩
/-- one sign in a text -/
theorem rv_in {c : Nat} {l : Tx} {b : Bool} (e : decide (c ∈ l) = b) : RV rInS (st [c]) (st l) H (.bl b) := fun H1 _ Q q => ⟨c, S l, rfl, rfl, by
  rw [S_list, e]; exact q H1 (Ex.refl H1)⟩
theorem rv_notIn {c : Nat} {l : Tx} {b : Bool} (e : (!decide (c ∈ l)) = b) : RV rNotInS (st [c]) (st l) H (.bl b) := fun H1 _ Q q => ⟨c, S l, rfl, rfl, by
  rw [S_list, e]; exact q H1 (Ex.refl H1)⟩
/-- len of a text -/
theorem ev_lenS {l : Tx} (ha : Ev ta σ H (st l)) (hz : l.length ≤ sizeLine) : Ev (tCB (fun xs H Q => ∃ z, xs = [V.str z] ∧ z.length ≤ sizeLine ∧ Q (.int (z.length : Int)) H) (tCons ta tNil)) σ H (.int (l.length : Int)) := fun H1 e Q q =>
  ha H1 e _ fun H2 e2 => ⟨S l, rfl, by rw [S_len]; exact hz, by rw [S_len]; exact q H2 e2⟩
end
end Ev
set_option Elab.async false
set_option linter.all false
set_option maxRecDepth 100000
set_option maxHeartbeats 4000000
namespace Ev
open PySem PySem.Spec PyProof.Rows L2 Evl
section
variable {P : Program} {w : World} {K : PySem.W.Frag} {mg : Str → Option Value} {base : Heap}
theorem bi_isi : bootBuiltins "isinstance" = some (.builtin "isinstance") := by decide +kernel
theorem bi_int : bootBuiltins "int" = some (.type "int") := by decide +kernel
theorem bi_bool : bootBuiltins "bool" = some (.type "bool") := by decide +kernel
theorem bi_str : bootBuiltins "str" = some (.type "str") := by decide +kernel
theorem bi_tup : bootBuiltins "tuple" = some (.type "tuple") := by decide +kernel
theorem bi_lst : bootBuiltins "list" = some (.type "list") := by decide +kernel
theorem bi_set : bootBuiltins "set" = some (.type "set") := by decide +kernel
theorem bi_len : bootBuiltins "len" = some (.builtin "len") := by decide +kernel
theorem bi_max : bootBuiltins "max" = some (.builtin "max") := by decide +kernel
theorem bi_min : bootBuiltins "min" = some (.builtin "min") := by decide +kernel
/-- isinstance(e, T) -/
theorem pe_isi {X : Cx} {e : Expr} {te : TE} {x : Str} {T : String} {p p1 pos : Pos} (he : PE X e te) (hg : Gl X "isinstance") (hm : X.mg "isinstance" = none) (hg2 : Gl X x) (hm2 : X.mg x = none) (hv : bootBuiltins x = some (.type T))
    (hn : x ≠ "__name__" := by decide) (hd : (x == ("__debug__" : Str)) = false := by decide) (hs : starEach [e, .Name x p1] X.env = (false, eval e X.env) :: starEach [.Name x p1] X.env := by rfl) (hs2 : (backTo pos (starEach [.Name x p1] X.env)).any (·.1) = false := by rfl) :
    PE X (.Call (.Name "isinstance" p) [e, .Name x p1] [] pos) (tCB (rIsi X.K) (tCons te (tCons (tC (.ty T)) tNil))) :=
  pe_callB call_isi hg hm bi_isi (pa_cons he (pa_cons (pe_bltn (v := .ty T) hg2 hm2 hv rfl hn hd) pa_nil) hs) (by decide) (by decide) hs hs2
theorem ev_isi {σ : L2.St} {H : Hp} {te : TE} {x : V} {ty c : String} {b : Bool} (h : Ev te σ H x) (hx : ∀ H1, Ex H H1 → TyX K H1 x (.type ty)) (hk : kitB ty c = some b) : Ev (tCB (rIsi K) (tCons te (tCons (tC (.ty c)) tNil))) σ H (.bl b) :=
  ev_cb (ea_cons h (ea_cons ev_c ea_nil)) (rc_isi hx hk)

/-! ### is_whole -/
theorem sc_is_whole : FnScope ["value"] ["value"] (defScope (top 6)) := ⟨rfl, rfl, rfl, by decide +kernel, rfl, by decide +kernel, by decide +kernel⟩
def spWhole : Sp := fun vs H Q _ => ∃ n : Int, vs = [.int n] ∧ RetV (.bl true) H Q
theorem ok_is_whole (F : At K mg 6 "is_whole") (G : Gb mg) : Df P w K mg base 1 "is_whole" ["value"] spWhole := by
  refine Df.made (N := ["value"]) F sc_is_whole (fun _ _ _ _ _ _ us hl => match us, hl with | [_], _ => rfl) (fun vs H Q E h => ?_) (fun f cdv A outer s H vs Q E hr h => ?_)
  · obtain ⟨n, rfl, _⟩ := h; rfl
  · obtain ⟨n, rfl, q⟩ := h
    refine ⟨_, pss_one (ps_ret (pe_and (pe_isi (pv 0) rfl G.isi rfl G.int bi_int) (pe_one (pe_not (pe_isi (pv 0) rfl G.isi rfl G.bool bi_bool))))), ?_⟩
    refine s_ret (v := .bl true) (ev_andV (a := true) (b := true) (ev_isi (ev_var rfl) (fun _ _ => .base (.int _)) (by decide +kernel)) fun _ => ev_notV (a := false) (ev_isi (ev_var rfl) (fun _ _ => .base (.int _)) (by decide +kernel))) q
theorem spv_whole {n : Int} {H : Hp} : SpV spWhole [.int n] H (.bl true) := spv_of fun H1 e Q E q => ⟨n, rfl, q⟩

/-! ### is_line -/
theorem sc_is_line : FnScope ["value", "sign"] ["value"] (defScope (top 9)) := ⟨rfl, rfl, rfl, by decide +kernel, rfl, by decide +kernel, by decide +kernel⟩
def spLine : Sp := fun vs H Q _ => ∃ x : Tx, vs = [st x] ∧ AllSg x ∧ x.length ≤ 40000 ∧ RetV (.bl true) H Q
theorem ok_is_line (F : At K mg 9 "is_line") (G : Gb mg) : Df P w K mg base 1 "is_line" ["value"] spLine := by
  refine Df.made (N := ["value", "sign"]) F sc_is_line (fun _ _ _ _ _ _ us hl => match us, hl with | [_], _ => rfl) (fun vs H Q E h => ?_) (fun f cdv A outer s H vs Q E hr h => ?_)
  · obtain ⟨n, rfl, _⟩ := h; rfl
  · obtain ⟨x, rfl, hx, hl, q⟩ := h
    obtain ⟨tl, gl⟩ := G.ls
    refine ⟨_, pss_one (ps_ret (pe_and (pe_isi (pv 0) rfl G.isi rfl G.str bi_str) (pe_one (pe_cmpR (op_eqD hr.units)
      (pe_lc (own := [("sign", 1)]) (g := gName 1) rfl sc_is_line.nd (pi_str (pv 0)) (blkOk_by (own := [("sign", 1)]) (N := ["value", "sign"]) (sc := defScope (top 9)) (by decide +kernel)) (fun _ _ _ _ _ => pg_name (i := 1) sc_is_line.nd rfl (Or.inl rfl))
        (fun _ _ _ _ _ => pts_one (pt_cmpR op_notInS (pv 1) (pe_glob (v := .str " abcdefghijklmnopqrstuvwxyz") rfl gl ⟨_, rfl⟩) rfl)) (fun _ _ _ _ _ => pv 1)) (pe_lst pa_nil) (nomark _))))), ?_⟩
    refine s_ret (v := .bl true) (ev_andV (a := true) (b := true) (ev_isi (ev_var rfl) (fun _ _ => .base (.str _)) (by decide +kernel)) fun _ => ?_) q
    refine ev_opLL (xs := []) (ys := []) ?_ (el_lst ea_nil (Nat.zero_le _)) fun p q H1 hp hq e => rv_eqD (d := .list []) (d' := .list []) (fun H2 e2 => .lst (sq_of (e2 _ _ hp)) .nil) (fun H2 e2 => .lst (sq_of (e2 _ _ hq)) .nil) (by decide +kernel) (by decide +kernel) (by decide +kernel)
    refine el_is ?_ (given_none (n := x.length) (f := fun _ => false) (v := fun _ => V.non) fun _ _ => rfl)
    refine el_lcS (fun _ => false) (fun _ => V.non) (ev_var rfl) hl (fun _ => rfl) (fun i c H1 e hc => et_test (ev_op (ev_var rfl) ev_c ?_)) (fun _ _ _ _ _ h => nomatch h)
    show RV rNotInS (st [c]) (.str " abcdefghijklmnopqrstuvwxyz") H1 (.bl false)
    rw [ls_S]
    refine rv_notIn ?_
    rw [decide_eq_true (hx c (List.mem_of_getElem? hc))]
    rfl
theorem spv_line {x : Tx} {H : Hp} (hx : AllSg x) (hl : x.length ≤ 40000) : SpV spLine [st x] H (.bl true) := spv_of fun H1 e Q E q => ⟨x, rfl, hx, hl, q⟩

/-! ### is_word -/
theorem sc_is_word : FnScope ["value", "least", "most"] ["value", "least", "most"] (defScope (top 10)) := ⟨rfl, rfl, rfl, by decide +kernel, rfl, by decide +kernel, by decide +kernel⟩
def spWord : Sp := fun vs H Q _ => ∃ (x : Tx) (a b : Int), vs = [st x, .int a, .int b] ∧ AllSg x ∧ x.length ≤ 40000 ∧ a ≤ x.length ∧ (x.length : Int) ≤ b ∧ RetV (.bl true) H Q
theorem ok_is_word (F : At K mg 10 "is_word") (G : Gb mg) (D1 : Df P w K mg base 1 "is_line" ["value"] spLine) : Df P w K mg base 2 "is_word" ["value", "least", "most"] spWord := by
  refine Df.made (N := ["value", "least", "most"]) F sc_is_word (fun _ _ _ _ _ _ us hl => match us, hl with | [_, _, _], _ => rfl) (fun vs H Q E h => ?_) (fun f cdv A outer s H vs Q E hr h => ?_)
  · obtain ⟨x, a, b, rfl, _⟩ := h; rfl
  · obtain ⟨x, a, b, rfl, hx, hl, h1, h2, q⟩ := h
    refine ⟨_, pss_one (ps_ret (pe_and (pe_df D1 hr (by decide) (by rfl) (pa_cons (pv 0) pa_nil)) (pe_one (pe_chain op_le op_le (pv 1) (pe_callB call_len_str (by rfl) G.len bi_len (pa_cons (pv 0) pa_nil)) (pv 2))))), ?_⟩
    refine s_ret (v := .bl true) (ev_andV (a := true) (b := true) (ev_call (ea_cons (ev_var rfl) ea_nil) (spv_line hx hl)) fun _ => ?_) q
    refine ev_chain (b := true) (z' := .bl true) (ev_var rfl) (ev_lenS (ev_var rfl) (Nat.le_trans hl (by decide))) ?_ (fun _ => ev_var rfl) (fun _ => ?_) (fun z => nomatch z)
    · have := rv_I0 (H := H) (g := fun i j => .bl (decide (i ≤ j))) (i := a) (j := x.length)
      rwa [decide_eq_true h1] at this
    · have := rv_I0 (H := H) (g := fun i j => .bl (decide (i ≤ j))) (i := x.length) (j := b)
      rwa [decide_eq_true h2] at this
theorem spv_word {x : Tx} {a b : Int} {H : Hp} (hx : AllSg x) (hl : x.length ≤ 40000) (h1 : a ≤ x.length) (h2 : (x.length : Int) ≤ b) : SpV spWord [st x, .int a, .int b] H (.bl true) := spv_of fun H1 e Q E q => ⟨x, a, b, rfl, hx, hl, h1, h2, q⟩
end
end Ev
set_option Elab.async false
set_option linter.all false
set_option maxRecDepth 100000
namespace Ev
open PySem PySem.Spec PyProof.Rows SS
section
variable {prog : Program} {w : World} {A : Around} {R : Result → Shared → Prop} {I : Addr} {fp wr : List Addr} {G : Array GenState → Array GenState → Prop} {n : Nat} {P : Nat → Value → Prop} {St : Nat → Shared → Prop}
theorem loopN (W : WalksS prog w A.in1 I fp wr G n P St) (S : Addr) (hSf : S ∉ fp) (xs : List Str) (hsz : xs.length = n) (hn1 : n + 1 < scanBound) (hnd : xs.Nodup)
    (hval : ∀ i v, P i v → ∃ t, v = .str (xs.getD i Str.empty) t) :
    ∀ (k i : Nat) (s : Shared), n - i = k → i ≤ n → St i s →
      s.heap.SetOf (PySem.strKind prog w) S (fun k' => (xs.take i).any (· == k')) i →
      (∀ s', Moved (S :: wr) G s s' → s'.heap.SetOf (PySem.strKind prog w) S (fun k' => (xs.take n).any (· == k')) n → R (.ok (.ret .none)) s') →
      codeAny (model prog w) A (.builtin "set.update.loop" ⟨[.ref S, .ref I], []⟩) R s := by
  have hSw : S ∉ wr := fun h => hSf (W.sub _ h)
  have hsub : ∀ b ∈ wr, b ∈ S :: wr := fun b hb => List.mem_cons_of_mem _ hb
  intro k
  induction k with
  | zero =>
    intro i s hk hi hst hS hR
    have hin : i = n := by omega
    subst hin
    refine codeAny_builtin PyProof.Rows.F.entry_set_update_loop ?_
    rw [Around.under_plainId PyProof.Rows.F.plain_set_update_loop _]
    show wpAny _ A.in1 (pyNext (.ref I) >>= _) _ _ s
    refine wpAny_bind (W.done s _ _ hst fun s' hm => ?_)
    show wpAny _ A.in1 (ret Value.none) _ _ s'
    exact wpAny_pure (hR s' (hm.mono hsub) (by
      obtain ⟨o, es, ep, t, ho, rest⟩ := hS
      exact ⟨o, es, ep, t, hm.heap S _ hSw ho, rest⟩))
  | succ k ih =>
    intro i s hk hi hst hS hR
    have hlt : i < n := by omega
    refine codeAny_builtin PyProof.Rows.F.entry_set_update_loop ?_
    rw [Around.under_plainId PyProof.Rows.F.plain_set_update_loop _]
    show wpAny _ A.in1 (pyNext (.ref I) >>= _) _ _ s
    refine wpAny_bind (W.item i s _ _ hlt hst fun v s' hP hst' hm => ?_)
    obtain ⟨t, rfl⟩ := hval i v hP
    have hS' : s'.heap.SetOf (PySem.strKind prog w) S (fun k' => (xs.take i).any (· == k')) i := by
      obtain ⟨o, es, ep, tb, ho, rest⟩ := hS
      exact ⟨o, es, ep, tb, hm.heap S _ hSw ho, rest⟩
    show wpAny _ A.in1 (holding [Value.str (xs.getD i Str.empty) t] (setAdd S (.str (xs.getD i Str.empty) t)) >>= _) _ _ s'
    refine wpAny_bind (wpAny_holding ?_)
    unfold setAdd
    refine wpAny_holding ?_
    refine wpAny_bind ((PySem.strKind prog w).pyHash (k := xs.getD i Str.empty) (strKind_is _ _ _ _) ?_)
    refine wpAny_setAddHashed_of (knd := PySem.strKind prog w) (s := { s' with toks := s'.toks + 1 }) (strKind_is _ _ _ _) rfl hS' (by omega) fun h' hsb hS2 => ?_
    have hxi : xs.getD i Str.empty = xs[i]'(by omega) := by rw [List.getD_eq_getElem?_getD, List.getElem?_eq_getElem (by omega)] <;> rfl
    have hno : ((xs.take i).any (· == xs.getD i Str.empty)) = false := by
      rw [hxi, List.any_eq_false]
      intro y hy e
      have ey : y = xs[i]'(by omega) := eq_of_beq e
      obtain ⟨j, hj, e3⟩ := List.getElem_of_mem hy
      have hji : j < i := by rw [List.length_take] at hj; omega
      rw [List.getElem_take] at e3
      exact absurd (e3.trans ey) (List.pairwise_iff_getElem.mp hnd j i (by omega) (by omega) hji)
    have hSi : h'.SetOf (PySem.strKind prog w) S (fun k' => (xs.take (i + 1)).any (· == k')) (i + 1) := by
      refine SetOf_congr hS2 (fun k' => ?_) (by rw [hno]; rfl)
      show ((xs.take i).any (· == k') || decide (k' = xs.getD i Str.empty)) = (xs.take (i + 1)).any (· == k')
      rw [List.take_add_one, List.getElem?_eq_getElem (by omega), List.any_append, hxi]
      by_cases e : k' = xs[i]'(by omega)
      · rw [e]; simp
      · have hb : (xs[i]'(by omega) == k') = false := beq_eq_false_iff_ne.mpr fun z => e z.symm
        simp [hb, e]
    refine wpAny_pure ⟨plainId_quiet PyProof.Rows.F.plain_set_update_loop _, ih (i + 1) _ (by omega) hlt (W.frame _ s' _ _ hst' (Nat.le_succ _) fun b hb o e => ?_) hSi fun s'' hm'' hS'' => ?_⟩
    · rw [hsb.2 b (fun h : b = S => hSf (by rw [← h]; exact hb))]; exact e
    · refine hR s'' (Moved.trans W.gtrans ((hm.mono hsub).then_heap (Nat.le_succ _) fun b o hb e => ?_) hm'') hS''
      rw [hsb.2 b (fun h : b = S => hb (by rw [h]; exact List.mem_cons_self))]; exact e
end

section
variable {prog : Program} {w : World} {A : Around} {E : Value → Shared → Prop} {s : Shared}
set_option maxHeartbeats 3200000 in
theorem call_set_listN {l : Addr} {items : Array Value} {xs : List Str} {Q : Value → Shared → Prop}
    (hh : A.handled = none) (hl : s.heap.IsList l items) (hi : PyProof.Rows.StrsAre items.toList xs) (hn1 : xs.length + 1 < scanBound) (hnd : xs.Nodup)
    (h : ∀ (h' : Heap) (tk : Nat), h'.SetOf (PySem.strKind prog w) s.heap.objs.size (fun k' => (xs.take items.size).any (· == k')) items.size →
      (∀ b o, b < s.heap.objs.size → s.heap.get? b = some o → h'.get? b = some o) → Q (.ref s.heap.objs.size) { s with heap := h', toks := tk }) :
    wpAny (model prog w) A (call (.type "set") [.ref l]) Q E s := by
  obtain ⟨c, tl, hmro⟩ := PySem.F.called_set.mro
  have hmade := PySem.F.called_set.made
  have hsub := PySem.F.called_set.sub
  refine wpAny_call (codeAny_of_tree ?_)
  show wpAny _ _ (callAny (.type "set") _) _ _ _
  refine wpAny_pure ⟨Code.quiet_builtin _ (by decide +kernel), codeAny_builtin PySem.F.entry_type_call ?_⟩
  rw [Around.under_plain (weight_type_call_type "set" [.ref l] []) rfl]
  have h1 := PySem.F.called_set.notType
  have h2 := PySem.F.called_set.canCreate
  have hct := PySem.F.typeCall_set_1 (.ref l)
  repeat (any_goals (first | assumption | wp_step))

  refine codeAny_mono (code_set_new_1 (.ref l) (E := E) (Q₁ := fun obj s₁ => ∃ led : Bool, obj = .ref s.heap.objs.size ∧ s₁ = { s with heap := s.heap.push { cls := .type "set", dict := none, data := .set #[] 0 (.fresh 0 0 led) } }) fun led => ⟨led, rfl, rfl⟩) fun r s₁ hr => ?_
  cases r with
  | error e => exact hr
  | ok fl =>
    cases fl with
    | ret obj =>
      obtain ⟨led, rfl, rfl⟩ := hr
      have hS : (s.heap.push { cls := .type "set", dict := none, data := .set #[] 0 (.fresh 0 0 led) }).get? s.heap.objs.size = some { cls := .type "set", dict := none, data := .set #[] 0 (.fresh 0 0 led) } := Heap.get?_push_size _ rfl
      have hT : Shared.TypeIs { s with heap := s.heap.push { cls := .type "set", dict := none, data := .set #[] 0 (.fresh 0 0 led) } } (.ref s.heap.objs.size) "set" := ⟨_, hS, rfl⟩
      have hli := PySem.F.called_set.init.lookup
      have hbi := PySem.F.called_set.init.bind (.ref s.heap.objs.size)
      repeat (any_goals (first | assumption | wp_step))

      refine codeAny_mono (codeAny_call_builtin (R := wants (fun r s₂ => r = .none ∧ ∃ h' tk, s₂ = { s with heap := h', toks := tk } ∧
          h'.SetOf (PySem.strKind prog w) s.heap.objs.size (fun k' => (xs.take items.size).any (· == k')) items.size ∧
          (∀ b o, b < s.heap.objs.size → s.heap.get? b = some o → h'.get? b = some o)) E) PySem.F.called_set.init.plain PySem.F.entry_set_init (check_set_init_1 hT ?_)) fun r₂ s₂ hr₂ => ?_
      · obtain ⟨ol, hol, hcl, nl, hdl⟩ := hl
        obtain ⟨ocls, odict, odata, oslots⟩ := ol
        simp only at hcl hdl
        subst hcl; subst hdl
        have hol' : (s.heap.push { cls := .type "set", dict := none, data := .set #[] 0 (.fresh 0 0 led) }).get? l = some { cls := .type "list", dict := odict, data := .seq items nl, slots := oslots } := Heap.get?_push_of_some _ hol
        have hsls := PySem.F.sub_list_set
        have hslf := PySem.F.sub_list_frozenset
        have hne : (Value.type "list" == Value.type "dict") = false := by decide
        have hl1 : (s.heap.push { cls := .type "set", dict := none, data := .set #[] 0 (.fresh 0 0 led) }).IsList l items := ⟨_, hol', rfl, nl, rfl⟩
        unfold Builtin.«set.__init__» noKeywords Builtin.Frozenset.updateFrom
        generalize hPI : pyIter = PI
        wp_walk
        subst hPI

        refine wpAny_pyIter_list hl1 ?_
        refine wpAny_bind (wpAny_runValue ?_)
        have hlS : l < s.heap.objs.size := Heap.lt_size hol
        have hh3 : A.in1.in1.in1.handled = none := by simp [hh]
        have hneI : l ≠ (s.heap.push { cls := .type "set", dict := none, data := .set #[] 0 (.fresh 0 0 led) }).objs.size := by
          rw [Heap.size_push]; exact Nat.ne_of_lt (Nat.lt_succ_of_lt hlS)
        have hSf : s.heap.objs.size ∉ [(s.heap.push { cls := .type "set", dict := none, data := .set #[] 0 (.fresh 0 0 led) }).objs.size, l] := by
          rw [Heap.size_push]; simp only [List.mem_cons, List.mem_singleton, List.not_mem_nil, or_false, not_or]
          exact ⟨Nat.ne_of_lt (Nat.lt_succ_self _), Nat.ne_of_gt hlS⟩
        have hsz : xs.length = items.size := by rw [← StrsAre.len_eq hi, Array.length_toList]
        have hval : ∀ (i : Nat) (v : Value), items[i]? = some v → ∃ t, v = .str (xs.getD i Str.empty) t := fun i v hv => strs_at hi i v (by rw [Array.getElem?_toList]; exact hv)
        refine loopN ((Walks.list hh3 _ l hneI items).toS) s.heap.objs.size
          hSf xs hsz (by rw [← hsz]; exact hn1) hnd hval (items.size - 0) 0 _ (by omega) (Nat.zero_le _)
          ⟨⟨_, Heap.get?_push_size _ rfl, rfl, rfl⟩, (hl1.push _)⟩ ?hS0 ?hR
        case hS0 =>
          have hget : ((s.heap.push { cls := .type "set", dict := none, data := .set #[] 0 (.fresh 0 0 led) }).push { cls := .type "list_iterator", data := .fields #[.ref l, .int 0 0] }).get? s.heap.objs.size
              = some { cls := .type "set", dict := none, data := .set #[] 0 (.fresh 0 0 led) } := Heap.get?_push_of_some _ hS
          exact PyProof.Rows.SetOf_congr ((PyProof.Rows.setObjOf_fresh (knd := PySem.strKind prog w) led).setOf hget (by unfold scanBound; omega)) (fun _ => rfl) rfl
        case hR =>
          intro s' hm hS'
          obtain ⟨h', g', d', tk', os'⟩ := s'
          have eg : g' = s.gens := hm.gens
          have ed : d' = s.drawn := hm.drawn
          have eo : os' = s.os := hm.os
          subst eg; subst ed; subst eo
          show wpAny _ _ _ _ _ _
          refine wpAny_pure ?_
          show wpAny _ _ (ret Value.none) _ _ _
          refine wpAny_pure ⟨rfl, h', tk', rfl, hS', fun b o hb e => ?_⟩
          have hb1 : b ≠ s.heap.objs.size := Nat.ne_of_lt hb
          have hb2 : b ≠ (s.heap.push { cls := .type "set", dict := none, data := .set #[] 0 (.fresh 0 0 led) }).objs.size := by
            rw [Heap.size_push]; exact Nat.ne_of_lt (Nat.lt_succ_of_lt hb)
          exact hm.heap b o (by simp only [List.mem_cons, List.mem_singleton, List.not_mem_nil, or_false, not_or]; exact ⟨hb1, hb2⟩) (Heap.get?_push_of_some _ (Heap.get?_push_of_some _ e))

      · cases r₂ with
        | error e => exact hr₂
        | ok fl₂ =>
          cases fl₂ with
          | ret r =>
            obtain ⟨rfl, h', tk, rfl, hS', hk'⟩ := hr₂
            repeat (any_goals (first | assumption | wp_step))
            exact h _ _ hS' hk'
          | _ => exact hr₂.elim
    | _ => exact hr.elim

end
end Ev
namespace Ev
open PySem PySem.Spec PyProof.Rows L2 Evl
/-- len(set(xs)), xs a list of different texts -/
def tLenSetN (K : PySem.W.Frag) (ta : TE) : TE := fun σ H Q => ta σ H fun x H1 => ∃ l, ∃ xs : List Str, x = .ref l ∧ SqL K H1 l (xs.map V.str) ∧ xs.length < 4000 ∧ xs.Nodup ∧ Q (.int xs.length) H1
theorem pe_lenSetN {X : Cx} {a : Expr} {ta : TE} {p p2 q pos : Pos} (hc : X.calm = true) (hg : Gl X "len") (hm : X.mg "len" = none) (hg2 : Gl X "set") (hm2 : X.mg "set" = none) (ha : PE X a ta)
    (na : starEach [a] X.env = (false, eval a X.env) :: starEach [] X.env := by rfl) : PE X (.Call (.Name "len" p) [.Call (.Name "set" p2) [a] [] q] [] pos) (tLenSetN X.K ta) := by
  refine ⟨fun pins s σ H Q I h => Call_ (ld_blt I hg hm boot_len (PyProof.Rows.callWith_builtin1 (PyProof.Rows.args_cons ?_ rfl) rfl rfl))⟩
  refine Call_ (ld_blt I hg2 hm2 boot_set (PyProof.Rows.callWith_type1 (PyProof.Rows.args_cons (thn (ha.run pins s σ H _ I h) fun v s1 ⟨x, H1, I1, r1, q1⟩ => PyProof.Rows.args_nil ?_) na) na rfl))
  obtain ⟨l, xs, rfl, hq, h1, hnd, q1⟩ := q1
  cases r1
  obtain ⟨its, r, pl, hz⟩ := I1.list hq
  have hl : its.toArray.size = xs.length := by rw [List.size_toArray, ← r.length, List.length_map]
  refine call_set_listN (I1.ok.hd hc) pl.isList (by simpa using strsAre_of r) (by unfold scanBound; omega) hnd fun h' tk hS hk => PyProof.Rows.args_nil ?_
  rw [hl] at hS
  obtain ⟨o, es, ep, t, ho, hex, hd, _, _, _, hf, hn⟩ := hS
  have I2 : Inv X pins σ H1 { s1 with heap := h', toks := tk } := I1.kept fun b o e => hk b o (Heap.lt_size e) e
  exact call_len_set ho hex hd hf (by rw [hn]; omega) ⟨.int xs.length, H1, I2.tok _, ⟨_, by rw [hn]⟩, q1⟩
end Ev
set_option Elab.async false
set_option linter.all false
set_option maxRecDepth 100000
set_option maxHeartbeats 4000000
namespace Ev
open PySem PySem.Spec PyProof.Rows L2 Evl
/-! ### orders in the heap -/
def PairV (H : Hp) (v : V) (p : Nat × Nat) : Prop := ∃ a, v = .ref a ∧ Rd H a (.tup [st [p.1], st [p.2]])
def OdV (H : Hp) (v : V) : Od → Prop
  | .rep o n => ∃ a, v = .ref a ∧ Rd H a (.tup [.str "replace", st o, st n])
  | .front w => ∃ a, v = .ref a ∧ Rd H a (.tup [.str "front", st w])
  | .back w => ∃ a, v = .ref a ∧ Rd H a (.tup [.str "back", st w])
  | .first n => ∃ a, v = .ref a ∧ Rd H a (.tup [.str "first", .int n])
  | .last n => ∃ a, v = .ref a ∧ Rd H a (.tup [.str "last", .int n])
  | .letters ps => ∃ a l vs, v = .ref a ∧ Rd H a (.tup [.str "letters", .ref l]) ∧ Rd H l (.lst vs) ∧ Paired (PairV H) vs ps
def OdsV (H : Hp) (v : V) (os : List Od) : Prop := ∃ a vs, v = .ref a ∧ Rd H a (.lst vs) ∧ Paired (OdV H) vs os
section
variable {H H' : Hp} {v : V}
theorem PairV.mono {p : Nat × Nat} (e : Ex H H') (h : PairV H v p) : PairV H' v p := by
  obtain ⟨a, h1, h2⟩ := h
  exact ⟨a, h1, ex_rd e h2⟩
theorem OdV.mono {o : Od} (e : Ex H H') (h : OdV H v o) : OdV H' v o := by
  cases o with
  | letters ps =>
    obtain ⟨a, l, vs, h1, h2, h3, h4⟩ := h
    exact ⟨a, l, vs, h1, ex_rd e h2, ex_rd e h3, L2.Paired.mapP h4 fun x y z => z.mono e⟩
  | _ => exact let ⟨a, h1, h2⟩ := h; ⟨a, h1, ex_rd e h2⟩
theorem OdsV.mono {os : List Od} (e : Ex H H') (h : OdsV H v os) : OdsV H' v os := by
  obtain ⟨a, vs, h1, h2, h3⟩ := h
  exact ⟨a, vs, h1, ex_rd e h2, L2.Paired.mapP h3 fun x y z => z.mono e⟩
theorem rd_l {K : PySem.W.Frag} {a : Addr} {xs : List V} (h : Rd H a (.lst xs)) : SqL K H a xs := .inl h
theorem rd_t {K : PySem.W.Frag} {a : Addr} {xs : List V} (h : Rd H a (.tup xs)) : SqT K H a xs := .inl h
theorem tyx_t {K : PySem.W.Frag} {a : Addr} {xs : List V} (h : Rd H a (.tup xs)) : TyX K H (.ref a) (.type "tuple") := by
  rcases h with h | ⟨o, h⟩
  · exact .base (.tup h)
  · exact .fTuple h
theorem tyx_l {K : PySem.W.Frag} {a : Addr} {xs : List V} (h : Rd H a (.lst xs)) : TyX K H (.ref a) (.type "list") := by
  rcases h with h | ⟨o, h⟩
  · exact .base (.lst h)
  · exact .base (.frz h)
end
theorem paired_get {α β : Type} {R : α → β → Prop} : ∀ {xs : List α} {ys : List β} {i : Nat} {x : α}, Paired R xs ys → xs[i]? = some x → ∃ y, ys[i]? = some y ∧ R x y
  | _, _, i, _, .nil, h => by simp at h
  | _, _, 0, _, .cons r _, h => by simp at h; subst h; exact ⟨_, rfl, r⟩
  | _, _, i + 1, x, .cons _ t, h => by
    obtain ⟨y, h1, h2⟩ := paired_get (i := i) t (by simpa using h)
    exact ⟨y, by simpa using h1, h2⟩
theorem paired_len {α β : Type} {R : α → β → Prop} {xs : List α} {ys : List β} (h : Paired R xs ys) : xs.length = ys.length := Paired.length h
section
variable {P : Program} {w : World} {K : PySem.W.Frag} {mg : Str → Option Value} {base : Heap}
section
variable {σ : L2.St} {H : Hp} {ta : TE}
theorem ev_lenT {a : Addr} {xs : List V} {n : Int} (ha : Ev ta σ H (.ref a)) (h : Rd H a (.tup xs)) (hn : (xs.length : Int) = n) : Ev (tCB (rLenS K) (tCons ta tNil)) σ H (.int n) := fun H1 e Q q =>
  ha H1 e _ fun H2 e2 => ⟨a, xs, rfl, Or.inr (rd_t (ex_rd (e.trans e2) h)), by rw [hn]; exact q H2 e2⟩
theorem ev_lenL {a : Addr} {xs : List V} {n : Int} (ha : Ev ta σ H (.ref a)) (h : Rd H a (.lst xs)) (hn : (xs.length : Int) = n) : Ev (tCB (rLenS K) (tCons ta tNil)) σ H (.int n) := fun H1 e Q q =>
  ha H1 e _ fun H2 e2 => ⟨a, xs, rfl, Or.inl (rd_l (ex_rd (e.trans e2) h)), by rw [hn]; exact q H2 e2⟩
theorem ev_lenSet {a : Addr} {xs : List Str} {n : Int} (ha : Ev ta σ H (.ref a)) (h : Rd H a (.lst (xs.map V.str))) (hz : xs.length < 4000) (hnd : xs.Nodup) (hn : (xs.length : Int) = n) : Ev (tLenSetN K ta) σ H (.int n) := fun H1 e Q q =>
  ha H1 e _ fun H2 e2 => ⟨a, xs, rfl, rd_l (ex_rd (e.trans e2) h), hz, hnd, by rw [hn]; exact q H2 e2⟩
/-- t[i], i written -/
theorem ev_ixT {a : Addr} {xs : List V} {i : Nat} {v : V} {tb : TE} (ha : Ev ta σ H (.ref a)) (hb : Ev tb σ H (.int (i : Int))) (h : Rd H a (.tup xs)) (hv : xs[i]? = some v) : Ev (tOp (rIxT K) ta tb) σ H v :=
  ev_op ha hb (rv_ixT (rd_t h) (atI_nat hv))
theorem ev_ixL {a : Addr} {xs : List V} {i : Nat} {v : V} {tb : TE} (ha : Ev ta σ H (.ref a)) (hb : Ev tb σ H (.int (i : Int))) (h : Rd H a (.lst xs)) (hv : xs[i]? = some v) : Ev (tOp (rIxL K) ta tb) σ H v :=
  ev_op ha hb (rv_ixL (rd_l h) (atI_nat hv))
end

/-! ### are_letters -/
theorem sc_are_letters : FnScope ["value", "firsts", "pair"] ["value"] (defScope (top 11)) := ⟨rfl, rfl, rfl, by decide +kernel, rfl, by decide +kernel, by decide +kernel⟩
def spLetters : Sp := fun vs H Q _ => ∃ (l : Addr) (xs : List V) (ps : List (Nat × Nat)), vs = [.ref l] ∧ Rd H l (.lst xs) ∧ Paired (PairV H) xs ps ∧ OkO (.letters ps) ∧ AllSg (namedM (.letters ps)) ∧ RetV (.bl true) H Q
theorem ok_are_letters (F : At K mg 11 "are_letters") (G : Gb mg) (DW : Df P w K mg base 2 "is_word" ["value", "least", "most"] spWord) : Df P w K mg base 3 "are_letters" ["value"] spLetters := by
  refine Df.made (N := ["value", "firsts", "pair"]) F sc_are_letters (fun _ _ _ _ _ _ us hl => match us, hl with | [_], _ => rfl) (fun vs H Q E h => ?_) (fun f cdv A outer s H vs Q E hr h => ?_)
  · obtain ⟨l, xs, ps, rfl, _⟩ := h; rfl
  · obtain ⟨l, xs, ps, rfl, hl, hp, hok, hsg, q⟩ := h
    refine ⟨_, pss_cons (ps_if (pt_not (pt_val (pe_isi (pv 0) rfl G.isi rfl G.lst bi_lst))) (pss_one (ps_ret pe_bl)) pss_nil)
      (pss_cons (ps_set (i := 1) sc_are_letters.nd rfl (.inl rfl) (pe_lst pa_nil))
      (pss_cons (ps_for PassesOwn.never rfl (pi_list (pv 0)) (pg_name (i := 2) sc_are_letters.nd rfl (.inl rfl))
        (pss_cons (ps_if (PW.pt (pw_or (pt_not (pt_val (pe_isi (pv 2) rfl G.isi rfl G.tup bi_tup))) (pw_or (pt_cmpR op_ne (pe_callB call_len_seq (by rfl) G.len bi_len (pa_cons (pv 2) pa_nil)) pe_int (nomark _))
            (pw_or (pt_not (pt_val (pe_df DW hr (by decide) (by rfl) (pa_cons (pe_ix ix_tup (pv 2) pe_int (fun _ _ => rfl)) (pa_cons pe_int (pa_cons pe_int pa_nil))))))
              (pw_or1 (pt_not (pt_val (pe_df DW hr (by decide) (by rfl) (pa_cons (pe_ix ix_tup (pv 2) pe_int (fun _ _ => rfl)) (pa_cons pe_int (pa_cons pe_int pa_nil)))))))))))
            (pss_one (ps_ret pe_bl)) pss_nil)
        (pss_one (ps_expr (pe_bm PySem.F.plainAttrs_list PySem.F.slot_list_append PySem.F.type_list_append mt_append (pv 1) (pa_cons (pe_ix ix_tup (pv 2) pe_int (fun _ _ => rfl)) pa_nil))))))
      (pss_one (ps_ret (pe_cmpR op_eq (pe_lenSetN rfl (by rfl) G.len (by rfl) G.set (pv 1)) (pe_callB call_len_seq (by rfl) G.len bi_len (pa_cons (pv 1) pa_nil)) (nomark _)))))), ?_⟩
    refine q_when (b := false) (et_not (a := true) (et_B (ev_isi (ty := "list") (ev_var rfl) (fun H1 e => tyx_l (ex_rd e hl)) (by decide +kernel)))) (fun h => nomatch h) fun _ H1 e1 => ?_
    refine q_asgL (el_lst ea_nil (Nat.zero_le _)) fun fa H2 nf e2 hf => ?_
    have e02 := e1.trans e2
    have nfa : H fa = none := fresh_back e1 nf
    refine q_forLn (a := l) (xs := xs) (ev_var rfl) (rd_l (ex_rd e02 hl)) (fun i σ H' => ∃ y, σ = [some (.ref l), some (.ref fa), y] ∧ Ex H H' ∧ H' fa = some (.lst ((ps.take i).map fun p => st [p.1])))
      (fun H3 e3 => ⟨none, rfl, e02.trans e3, e3 _ _ hf⟩) (fun i σ H' _ ⟨y, _, e, _⟩ => rd_l (ex_rd e hl)) (fun i x σ H' hx ⟨y, hσ, e, hfa⟩ => ?_) (fun σ H' ⟨y, hσ, e, hfa⟩ => ?_)
    · subst hσ
      obtain ⟨p, hpi, a, rfl, ha⟩ := paired_get hp hx
      have hw1 : AllSg [p.1] := AllSg.one (hsg _ (List.mem_flatMap.mpr ⟨p, List.mem_of_getElem? hpi, List.mem_cons_self⟩))
      have hw2 : AllSg [p.2] := AllSg.one (hsg _ (List.mem_flatMap.mpr ⟨p, List.mem_of_getElem? hpi, List.mem_cons_of_mem _ List.mem_cons_self⟩))
      have ha' := ex_rd e ha
      refine q_when (b := false) (et_or (a := false) (et_not (a := true) (et_B (ev_isi (ty := "tuple") (ev_var rfl) (fun H1 e => tyx_t (ex_rd e ha')) (by decide +kernel)))) fun _ =>
        et_or (a := false) (et_test (ev_op (ev_lenT (n := 2) (ev_var rfl) ha' rfl) ev_c (rv_ne rfl))) fun _ =>
        et_or (a := false) (et_not (a := true) (et_B (ev_call (ea_cons (ev_ixT (i := 0) (ev_var rfl) ev_c ha' rfl) (ea_cons ev_c (ea_cons ev_c ea_nil))) (spv_word hw1 (by simp) (by simp) (by simp))))) fun _ =>
        et_not (a := true) (et_B (ev_call (ea_cons (ev_ixT (i := 1) (ev_var rfl) ev_c ha' rfl) (ea_cons ev_c (ea_cons ev_c ea_nil))) (spv_word hw2 (by simp) (by simp) (by simp))))) (fun h => nomatch h) fun _ H3 e3 => ?_
      refine s_app (l := fa) (e3 _ _ hfa) (ev_var rfl) (ev_ixT (i := 0) (ev_var rfl) ev_c (ex_rd e3 ha') rfl) ?_ fun H4 e4 => ⟨_, rfl, ((e.trans e3).trans e4).mut nfa, ?_⟩
      · rw [List.length_map, List.length_take]
        have := hok.2
        omega
      · rw [upd_same, List.take_add_one, hpi, List.map_append]
        rfl
    · subst hσ
      have hlen : xs.length = ps.length := paired_len hp
      rw [hlen, List.take_length] at hfa
      have em : (ps.map fun p => st [p.1]) = (ps.map fun p => S [p.1]).map V.str := by rw [List.map_map]; rfl
      have hz := hok.2
      refine s_ret (v := .bl true) (ev_is (ev_op (ev_lenSet (xs := ps.map fun p => S [p.1]) (n := ps.length) (ev_var rfl) (.inl (by rw [← em]; exact hfa)) (by rw [List.length_map]; omega) ?_ (by rw [List.length_map])) (ev_lenL (n := ps.length) (ev_var rfl) (.inl hfa) (by rw [List.length_map])) (rv_eq rfl)) (by simp)) fun H3 e3 => q H3 (e.trans e3)
      have h1 := hok.1
      rw [List.Nodup, List.pairwise_map] at h1 ⊢
      refine h1.imp fun {x y} hxy z => hxy ?_
      have := S_inj z
      simpa using this
theorem spv_letters {l : Addr} {xs : List V} {ps : List (Nat × Nat)} {H : Hp} (hl : Rd H l (.lst xs)) (hp : Paired (PairV H) xs ps) (ho : OkO (.letters ps)) (hs : AllSg (namedM (.letters ps))) : SpV spLetters [.ref l] H (.bl true) :=
  spv_of fun H1 e Q E q => ⟨l, xs, ps, rfl, ex_rd e hl, L2.Paired.mapP hp fun x y z => z.mono e, ho, hs, q⟩

/-! ### is_order -/
theorem le_ok {i j : Int} {H : Hp} (h : i ≤ j) : RV (rI0 fun i j => .bl (decide (i ≤ j))) (.int i) (.int j) H (.bl true) := by
  have z := rv_I0 (H := H) (g := fun i j => .bl (decide (i ≤ j))) (i := i) (j := j)
  rwa [decide_eq_true h] at z
theorem sc_is_order : FnScope ["value"] ["value"] (defScope (top 12)) := ⟨rfl, rfl, rfl, by decide +kernel, rfl, by decide +kernel, by decide +kernel⟩
def spOrder : Sp := fun vs H Q _ => ∃ (v : V) (o : Od), vs = [v] ∧ OdV H v o ∧ OkO o ∧ AllSg (namedM o) ∧ RetV (.bl true) H Q
theorem ok_is_order (F : At K mg 12 "is_order") (G : Gb mg) (DW : Df P w K mg base 2 "is_word" ["value", "least", "most"] spWord) (DH : Df P w K mg base 1 "is_whole" ["value"] spWhole) (DL : Df P w K mg base 3 "are_letters" ["value"] spLetters) : Df P w K mg base 4 "is_order" ["value"] spOrder := by
  refine Df.made (N := ["value"]) F sc_is_order (fun _ _ _ _ _ _ us hl => match us, hl with | [_], _ => rfl) (fun vs H Q E h => ?_) (fun f cdv A outer s H vs Q E hr h => ?_)
  · obtain ⟨v, o, rfl, _⟩ := h; rfl
  refine ⟨_, pss_cons (ps_if (PW.pt (pw_or (pt_not (pt_val (pe_isi (pv 0) rfl G.isi rfl G.tup bi_tup))) (pw_or (pt_cmpR op_notIn_seq (pe_callB call_len_seq (by rfl) G.len bi_len (pa_cons (pv 0) pa_nil)) (pe_tup (pa_cons pe_int (pa_cons pe_int pa_nil))) rfl)
        (pw_or1 (pt_not (pt_val (pe_isi (pe_ix ix_tup (pv 0) pe_int (fun _ _ => rfl)) rfl G.isi rfl G.str bi_str))))))) (pss_one (ps_ret pe_bl)) pss_nil)
      (pss_cons (ps_if (pt_cmpR op_eq (pe_callB call_len_seq (by rfl) G.len bi_len (pa_cons (pv 0) pa_nil)) pe_int (nomark _)) (pss_one (ps_ret (pe_and (pe_cmpR op_eq (pe_ix ix_tup (pv 0) pe_int (fun _ _ => rfl)) pe_str (nomark _)) (pe_and (pe_df DW hr (by decide) (by rfl) (pa_cons (pe_ix ix_tup (pv 0) pe_int (fun _ _ => rfl)) (pa_cons pe_int (pa_cons pe_int pa_nil)))) (pe_one (pe_df DW hr (by decide) (by rfl) (pa_cons (pe_ix ix_tup (pv 0) pe_int (fun _ _ => rfl)) (pa_cons pe_int (pa_cons pe_int pa_nil))))))))) pss_nil)
      (pss_cons (ps_if (pt_cmpR op_in_seq (pe_ix ix_tup (pv 0) pe_int (fun _ _ => rfl)) (pe_tup (pa_cons pe_str (pa_cons pe_str pa_nil))) rfl) (pss_one (ps_ret (pe_df DW hr (by decide) (by rfl) (pa_cons (pe_ix ix_tup (pv 0) pe_int (fun _ _ => rfl)) (pa_cons pe_int (pa_cons pe_int pa_nil)))))) pss_nil)
      (pss_cons (ps_if (pt_cmpR op_in_seq (pe_ix ix_tup (pv 0) pe_int (fun _ _ => rfl)) (pe_tup (pa_cons pe_str (pa_cons pe_str pa_nil))) rfl) (pss_one (ps_ret (pe_and (pe_df DH hr (by decide) (by rfl) (pa_cons (pe_ix ix_tup (pv 0) pe_int (fun _ _ => rfl)) pa_nil)) (pe_one (pe_chain op_le op_le pe_int (pe_ix ix_tup (pv 0) pe_int (fun _ _ => rfl)) pe_int))))) pss_nil)
      (pss_one (ps_ret (pe_and (pe_cmpR op_eq (pe_ix ix_tup (pv 0) pe_int (fun _ _ => rfl)) pe_str (nomark _)) (pe_one (pe_df DL hr (by decide) (by rfl) (pa_cons (pe_ix ix_tup (pv 0) pe_int (fun _ _ => rfl)) pa_nil))))))))), ?_⟩
  obtain ⟨v, od, rfl, hv, ho, hs, q⟩ := h
  cases od with
  | rep o n =>
    obtain ⟨a, rfl, ha⟩ := hv
    have s1 : AllSg o := fun c hc => hs c (List.mem_append_left _ hc)
    have s2 : AllSg n := fun c hc => hs c (List.mem_append_right _ hc)
    have z1 : 1 ≤ o.length := List.length_pos_iff.mpr ho.1
    have z2 := ho.2.1
    have z3 := ho.2.2
    refine q_when (b := false) (et_or (a := false) (et_not (a := true) (et_B (ev_isi (ty := "tuple") (ev_var rfl) (fun H1 e => tyx_t (ex_rd e ha)) (by decide +kernel)))) fun _ =>
      et_or (a := false) (et_test (ev_is (ev_niU (ev_lenT (n := 3) (ev_var rfl) ha rfl) (eu_tup (ea_cons ev_c (ea_cons ev_c ea_nil)) (by decide)) rfl rfl) (by rfl))) fun _ =>
      et_not (a := true) (et_B (ev_isi (ty := "str") (ev_ixT (i := 0) (ev_var rfl) ev_c ha rfl) (fun H1 e => .base (.str _)) (by decide +kernel)))) (fun h => nomatch h) fun _ H1 e1 => ?_
    have ha1 := ex_rd e1 ha
    refine q_when (b := true) (et_test (ev_op (ev_lenT (n := 3) (ev_var rfl) ha1 rfl) ev_c (rv_eq rfl))) (fun _ H2 e2 => ?_) fun h => nomatch h
    have ha2 := ex_rd e2 ha1
    refine s_ret (v := .bl true) (ev_andV (a := true) (b := true) (ev_op (ev_ixT (i := 0) (ev_var rfl) ev_c ha2 rfl) ev_c (rv_eq rfl)) fun _ =>
      ev_andV (a := true) (b := true) (ev_call (ea_cons (ev_ixT (i := 1) (ev_var rfl) ev_c ha2 rfl) (ea_cons ev_c (ea_cons ev_c ea_nil))) (spv_word s1 (by omega) (by omega) (by omega))) fun _ =>
      ev_call (ea_cons (ev_ixT (i := 2) (ev_var rfl) ev_c ha2 rfl) (ea_cons ev_c (ea_cons ev_c ea_nil))) (spv_word s2 (by omega) (by omega) (by omega))) fun H3 e3 => q H3 ((e1.trans e2).trans e3)
  | front w =>
    obtain ⟨a, rfl, ha⟩ := hv
    have z3 : w.length ≤ 3 := ho
    have s1 : AllSg w := hs
    refine q_when (b := false) (et_or (a := false) (et_not (a := true) (et_B (ev_isi (ty := "tuple") (ev_var rfl) (fun H1 e => tyx_t (ex_rd e ha)) (by decide +kernel)))) fun _ =>
      et_or (a := false) (et_test (ev_is (ev_niU (ev_lenT (n := 2) (ev_var rfl) ha rfl) (eu_tup (ea_cons ev_c (ea_cons ev_c ea_nil)) (by decide)) rfl rfl) (by rfl))) fun _ =>
      et_not (a := true) (et_B (ev_isi (ty := "str") (ev_ixT (i := 0) (ev_var rfl) ev_c ha rfl) (fun H1 e => .base (.str _)) (by decide +kernel)))) (fun h => nomatch h) fun _ H1 e1 => ?_
    have ha1 := ex_rd e1 ha
    refine q_when (b := false) (et_test (ev_op (ev_lenT (n := 2) (ev_var rfl) ha1 rfl) ev_c (rv_eq rfl))) (fun h => nomatch h) fun _ H2 e2 => ?_
    have ha2 := ex_rd e2 ha1
    refine q_when (b := true) (et_test (ev_is (ev_inU (ev_ixT (i := 0) (ev_var rfl) ev_c ha2 rfl) (eu_tup (ea_cons ev_c (ea_cons ev_c ea_nil)) (by decide)) rfl rfl) (by rfl))) (fun _ H3 e3 => ?_) fun h => nomatch h
    have ha3 := ex_rd e3 ha2
    exact s_ret (v := .bl true) (ev_call (ea_cons (ev_ixT (i := 1) (ev_var rfl) ev_c ha3 rfl) (ea_cons ev_c (ea_cons ev_c ea_nil))) (spv_word s1 (by omega) (by omega) (by omega))) fun H4 e4 => q H4 (((e1.trans e2).trans e3).trans e4)
  | back w =>
    obtain ⟨a, rfl, ha⟩ := hv
    have z3 : w.length ≤ 3 := ho
    have s1 : AllSg w := hs
    refine q_when (b := false) (et_or (a := false) (et_not (a := true) (et_B (ev_isi (ty := "tuple") (ev_var rfl) (fun H1 e => tyx_t (ex_rd e ha)) (by decide +kernel)))) fun _ =>
      et_or (a := false) (et_test (ev_is (ev_niU (ev_lenT (n := 2) (ev_var rfl) ha rfl) (eu_tup (ea_cons ev_c (ea_cons ev_c ea_nil)) (by decide)) rfl rfl) (by rfl))) fun _ =>
      et_not (a := true) (et_B (ev_isi (ty := "str") (ev_ixT (i := 0) (ev_var rfl) ev_c ha rfl) (fun H1 e => .base (.str _)) (by decide +kernel)))) (fun h => nomatch h) fun _ H1 e1 => ?_
    have ha1 := ex_rd e1 ha
    refine q_when (b := false) (et_test (ev_op (ev_lenT (n := 2) (ev_var rfl) ha1 rfl) ev_c (rv_eq rfl))) (fun h => nomatch h) fun _ H2 e2 => ?_
    have ha2 := ex_rd e2 ha1
    refine q_when (b := true) (et_test (ev_is (ev_inU (ev_ixT (i := 0) (ev_var rfl) ev_c ha2 rfl) (eu_tup (ea_cons ev_c (ea_cons ev_c ea_nil)) (by decide)) rfl rfl) (by rfl))) (fun _ H3 e3 => ?_) fun h => nomatch h
    have ha3 := ex_rd e3 ha2
    exact s_ret (v := .bl true) (ev_call (ea_cons (ev_ixT (i := 1) (ev_var rfl) ev_c ha3 rfl) (ea_cons ev_c (ea_cons ev_c ea_nil))) (spv_word s1 (by omega) (by omega) (by omega))) fun H4 e4 => q H4 (((e1.trans e2).trans e3).trans e4)
  | first n =>
    obtain ⟨a, rfl, ha⟩ := hv
    have z3 : n ≤ 2 := ho
    refine q_when (b := false) (et_or (a := false) (et_not (a := true) (et_B (ev_isi (ty := "tuple") (ev_var rfl) (fun H1 e => tyx_t (ex_rd e ha)) (by decide +kernel)))) fun _ =>
      et_or (a := false) (et_test (ev_is (ev_niU (ev_lenT (n := 2) (ev_var rfl) ha rfl) (eu_tup (ea_cons ev_c (ea_cons ev_c ea_nil)) (by decide)) rfl rfl) (by rfl))) fun _ =>
      et_not (a := true) (et_B (ev_isi (ty := "str") (ev_ixT (i := 0) (ev_var rfl) ev_c ha rfl) (fun H1 e => .base (.str _)) (by decide +kernel)))) (fun h => nomatch h) fun _ H1 e1 => ?_
    have ha1 := ex_rd e1 ha
    refine q_when (b := false) (et_test (ev_op (ev_lenT (n := 2) (ev_var rfl) ha1 rfl) ev_c (rv_eq rfl))) (fun h => nomatch h) fun _ H2 e2 => ?_
    have ha2 := ex_rd e2 ha1
    refine q_when (b := false) (et_test (ev_is (ev_inU (ev_ixT (i := 0) (ev_var rfl) ev_c ha2 rfl) (eu_tup (ea_cons ev_c (ea_cons ev_c ea_nil)) (by decide)) rfl rfl) (by rfl))) (fun h => nomatch h) fun _ H2' e2' => ?_
    have e2 := e2.trans e2'
    have ha2 := ex_rd e2' ha2
    refine q_when (b := true) (et_test (ev_is (ev_inU (ev_ixT (i := 0) (ev_var rfl) ev_c ha2 rfl) (eu_tup (ea_cons ev_c (ea_cons ev_c ea_nil)) (by decide)) rfl rfl) (by rfl))) (fun _ H3 e3 => ?_) fun h => nomatch h
    have ha3 := ex_rd e3 ha2
    refine s_ret (v := .bl true) (ev_andV (a := true) (b := true) (ev_call (ea_cons (ev_ixT (i := 1) (ev_var rfl) ev_c ha3 rfl) ea_nil) spv_whole) fun _ =>
      ev_chain (b := true) (z' := .bl true) ev_c (ev_ixT (i := 1) (ev_var rfl) ev_c ha3 rfl) ?_ (fun _ => ev_c) (fun _ => ?_) (fun z => nomatch z)) fun H4 e4 => q H4 (((e1.trans e2).trans e3).trans e4)
    · exact le_ok (by omega)
    · exact le_ok (by omega)
  | last n =>
    obtain ⟨a, rfl, ha⟩ := hv
    have z3 : n ≤ 2 := Nat.le_trans ho (by decide)
    refine q_when (b := false) (et_or (a := false) (et_not (a := true) (et_B (ev_isi (ty := "tuple") (ev_var rfl) (fun H1 e => tyx_t (ex_rd e ha)) (by decide +kernel)))) fun _ =>
      et_or (a := false) (et_test (ev_is (ev_niU (ev_lenT (n := 2) (ev_var rfl) ha rfl) (eu_tup (ea_cons ev_c (ea_cons ev_c ea_nil)) (by decide)) rfl rfl) (by rfl))) fun _ =>
      et_not (a := true) (et_B (ev_isi (ty := "str") (ev_ixT (i := 0) (ev_var rfl) ev_c ha rfl) (fun H1 e => .base (.str _)) (by decide +kernel)))) (fun h => nomatch h) fun _ H1 e1 => ?_
    have ha1 := ex_rd e1 ha
    refine q_when (b := false) (et_test (ev_op (ev_lenT (n := 2) (ev_var rfl) ha1 rfl) ev_c (rv_eq rfl))) (fun h => nomatch h) fun _ H2 e2 => ?_
    have ha2 := ex_rd e2 ha1
    refine q_when (b := false) (et_test (ev_is (ev_inU (ev_ixT (i := 0) (ev_var rfl) ev_c ha2 rfl) (eu_tup (ea_cons ev_c (ea_cons ev_c ea_nil)) (by decide)) rfl rfl) (by rfl))) (fun h => nomatch h) fun _ H2' e2' => ?_
    have e2 := e2.trans e2'
    have ha2 := ex_rd e2' ha2
    refine q_when (b := true) (et_test (ev_is (ev_inU (ev_ixT (i := 0) (ev_var rfl) ev_c ha2 rfl) (eu_tup (ea_cons ev_c (ea_cons ev_c ea_nil)) (by decide)) rfl rfl) (by rfl))) (fun _ H3 e3 => ?_) fun h => nomatch h
    have ha3 := ex_rd e3 ha2
    refine s_ret (v := .bl true) (ev_andV (a := true) (b := true) (ev_call (ea_cons (ev_ixT (i := 1) (ev_var rfl) ev_c ha3 rfl) ea_nil) spv_whole) fun _ =>
      ev_chain (b := true) (z' := .bl true) ev_c (ev_ixT (i := 1) (ev_var rfl) ev_c ha3 rfl) ?_ (fun _ => ev_c) (fun _ => ?_) (fun z => nomatch z)) fun H4 e4 => q H4 (((e1.trans e2).trans e3).trans e4)
    · exact le_ok (by omega)
    · exact le_ok (by omega)
  | letters ps =>
    obtain ⟨a, l, xs, rfl, ha, hl, hp⟩ := hv
    refine q_when (b := false) (et_or (a := false) (et_not (a := true) (et_B (ev_isi (ty := "tuple") (ev_var rfl) (fun H1 e => tyx_t (ex_rd e ha)) (by decide +kernel)))) fun _ =>
      et_or (a := false) (et_test (ev_is (ev_niU (ev_lenT (n := 2) (ev_var rfl) ha rfl) (eu_tup (ea_cons ev_c (ea_cons ev_c ea_nil)) (by decide)) rfl rfl) (by rfl))) fun _ =>
      et_not (a := true) (et_B (ev_isi (ty := "str") (ev_ixT (i := 0) (ev_var rfl) ev_c ha rfl) (fun H1 e => .base (.str _)) (by decide +kernel)))) (fun h => nomatch h) fun _ H1 e1 => ?_
    have ha1 := ex_rd e1 ha
    refine q_when (b := false) (et_test (ev_op (ev_lenT (n := 2) (ev_var rfl) ha1 rfl) ev_c (rv_eq rfl))) (fun h => nomatch h) fun _ H2 e2 => ?_
    have ha2 := ex_rd e2 ha1
    refine q_when (b := false) (et_test (ev_is (ev_inU (ev_ixT (i := 0) (ev_var rfl) ev_c ha2 rfl) (eu_tup (ea_cons ev_c (ea_cons ev_c ea_nil)) (by decide)) rfl rfl) (by rfl))) (fun h => nomatch h) fun _ H2' e2' => ?_
    have e2 := e2.trans e2'
    have ha2 := ex_rd e2' ha2
    refine q_when (b := false) (et_test (ev_is (ev_inU (ev_ixT (i := 0) (ev_var rfl) ev_c ha2 rfl) (eu_tup (ea_cons ev_c (ea_cons ev_c ea_nil)) (by decide)) rfl rfl) (by rfl))) (fun h => nomatch h) fun _ H3 e3 => ?_
    have ha3 := ex_rd e3 ha2
    have e03 := (e1.trans e2).trans e3
    exact s_ret (v := .bl true) (ev_andV (a := true) (b := true) (ev_op (ev_ixT (i := 0) (ev_var rfl) ev_c ha3 rfl) ev_c (rv_eq rfl)) fun _ =>
      ev_call (ea_cons (ev_ixT (i := 1) (ev_var rfl) ev_c ha3 rfl) ea_nil) (spv_letters (ex_rd e03 hl) (L2.Paired.mapP hp fun x y z => z.mono e03) ho hs)) fun H4 e4 => q H4 (e03.trans e4)
theorem spv_order {v : V} {o : Od} {H : Hp} (h : OdV H v o) (ho : OkO o) (hs : AllSg (namedM o)) : SpV spOrder [v] H (.bl true) := spv_of fun H1 e Q E q => ⟨v, o, rfl, h.mono e, ho, hs, q⟩
end
end Ev
set_option Elab.async false
set_option linter.all false
set_option maxRecDepth 100000
set_option maxHeartbeats 4000000
namespace Ev
open PySem PySem.Spec PyProof.Rows L2 Evl
open PySem.StrLaws (replL)
/-! ### str.replace, whichever objects the two texts are -/
theorem str_of_list {s : Str} {l : Tx} (h : s.cps.toList = l) : s = S l := by
  obtain ⟨c⟩ := s
  have : c = l.toArray := by rw [← h]
  rw [this]
theorem replace_S (x y z : Tx) (hy : y ≠ []) : Txt.replace (S x) (S y) (S z) = S (replL y z x) := by
  refine str_of_list ?_
  rw [StrLaws.replace_list (by rw [S_len]; exact List.length_pos_iff.mpr hy)]
section
open Builtin Builtin.Str
variable {prog : Program} {w : World} {A : Around} {E : Value → Shared → Prop} {s : Shared} {x y z : Str} {t u v : Tok} {Q : Value → Shared → Prop}
theorem isSame_one (y : Str) (u : Tok) (h : (u == 0) = false) : isSame (.str y u) (.str y u) = pure true := by
  show (if (u == 0 || u == 0) = true then _ else if (u == u) = true then pure true else _ : Sem Bool) = _
  rw [h, beq_self_eq_true]
  rfl
/-- old and new are one object: nothing changes -/
theorem replace_one_object (hu : u ≠ 0) (hq : ∀ k, Q (.str x t) { s with toks := k }) : wpAny (model prog w) A (call (.builtin "str.replace") [.str x t, .str y u, .str y u]) Q E s := by
  have hu' : (u == 0) = false := by simpa using hu
  have g : Gives («str.replace» ⟨[.str x t, .str y u, .str y u], []⟩) (.val (.str x t)) := by
    show Gives (if ((occurrences x y 0 x.length (x.length + 1)).isEmpty || (y.length == 0 && y.length == 0)) = true then (do rule "str.replace.nothing"; ret (.str x t))
      else (do
        let same ← isSame (.str y u) (.str y u)
        if same = true then (do rule "str.replace.old-is-new"; ret (.str x t)) else
          if tooLong (x.length + (occurrences x y 0 x.length (x.length + 1)).length * y.length) = true then unsupported "str.replace:memory" else
            retStr (glued y (partsBetween x (occurrences x y 0 x.length (x.length + 1)) y.length)))) _
    by_cases hc : ((occurrences x y 0 x.length (x.length + 1)).isEmpty || (y.length == 0 && y.length == 0)) = true
    · rw [if_pos hc]
      exact .rule (.of_eq rfl)
    · rw [if_neg hc, isSame_one y u hu']
      show Gives (do rule "str.replace.old-is-new"; ret (.str x t)) _
      exact .rule (.of_eq rfl)
  exact call_gives F.slot_str_replace (typeIs_str _ _ _) F.entry_str_replace (F.args_str_replace_3 _ _ _) g (hq s.toks)
theorem replace_any (hu : u ≠ 0) (hv : v ≠ 0) (huv : u = v → y = z) (hb : x.length + (x.length + 1) * z.length ≤ 16777216) (nb : NoneBooked s.heap) (hq : ∀ t' k, Q (.str (Txt.replace x y z) t') { s with toks := k }) :
    wpAny (model prog w) A (call (.builtin "str.replace") [.str x t, .str y u, .str z v]) Q E s := by
  by_cases e : u = v
  · have e2 := huv e
    subst e e2
    have h0 := hq t
    rw [Txt.replace_self] at h0
    exact replace_one_object hu h0
  · exact SC.replaceA hu hv e hb hq nb
end
def TokV (H : Hp) (v : V) : Od → Prop
  | .rep o n => ∃ (a : Addr) (ob : Obj) (k : Nat) (t0 t1 t2 : Tok), v = .ref a ∧ H a = some (.frz ob (.tup [.str "replace", st o, st n])) ∧ ob.cls = .type "tuple" ∧ ob.data = .seq #[.str "replace" t0, .str (S o) t1, .str (S n) t2] k ∧ t1 ≠ 0 ∧ t2 ≠ 0 ∧ (t1 = t2 → o = n)
  | _ => True
theorem TokV.mono {H H' : Hp} {v : V} {o : Od} (e : Ex H H') (h : TokV H v o) : TokV H' v o := by
  cases o with
  | rep o n =>
    obtain ⟨a, ob, k, t0, t1, t2, h1, h2, h3⟩ := h
    exact ⟨a, ob, k, t0, t1, t2, h1, e _ _ h2, h3⟩
  | _ => trivial
theorem noneB {X : Cx} {pins : List (Addr × Obj)} {σ : L2.St} {H : Hp} {s : Shared} (nb : NoneBooked X.base) (I : Inv X pins σ H s) : NoneBooked s.heap := by
  obtain ⟨mc, h1, h2⟩ := nb
  exact ⟨mc, h1.keeps I.bk, h2⟩
/-- line.replace(order[1], order[2]) -/
def tReplT (i j : Nat) : TE := fun σ H Q => ∃ (v : V) (o n x : Tx), σ[i]? = some (some v) ∧ σ[j]? = some (some (st x)) ∧ TokV H v (.rep o n) ∧ o ≠ [] ∧ x.length + (x.length + 1) * n.length ≤ 16777216 ∧ Q (st (replL o n x)) H
theorem seqIx_nat {k n : Nat} (h : k < n) : seqIndex? (k : Int) n = some k := by
  unfold seqIndex?
  have h1 : ¬ ((k : Int) < 0) := by omega
  simp [h1, h]
theorem raw_ixT {X : Cx} {pins : List (Addr × Obj)} {σ : L2.St} {H : Hp} {s : Shared} {i : Nat} {x : Str} {a : Addr} {its : List Value} {k : Nat} {j : Nat} {w : Value} {p1 cp pos : Pos} {Q E : Value → Shared → Prop} (hN : X.N[i]? = some x) (hv : Vis X.env.scope x) (I : Inv X pins σ H s)
    (hσ : σ[i]? = some (some (.ref a))) (hl : IsTup s.heap a its.toArray) (hk : its.length ≤ 1000) (hx : its[k]? = some w) (fin : ∀ tk, Q w { s with toks := tk })
    (hd : (x == ("__debug__" : Str)) = false := by decide) (hcd : (x == ("__classdict__" : Str)) = false := by decide) :
    wpAny (model X.prog X.w) X.A (eval (.Subscript (.Name x p1) (.Constant (.int (k : Int)) j cp) pos) X.env) Q E s := by
  refine Subscript_ (raw_name hN hv I hσ (fun v r => ?_) hd hcd)
  have e : v = Value.ref a := r
  subst e
  refine wpAny_Constant_int ?_
  have hkl : k < its.length := (List.getElem?_eq_some_iff.mp hx).1
  refine item_tupleL (s := { s with toks := s.toks + 1 }) (j := k) hl (by omega) (by omega) ?_ hx (fin _)
  exact seqIx_nat hkl
theorem pe_replT {X : Cx} {i j k1 k2 : Nat} {x y : Str} {p1 p2 p3 c1 c2 q1 q2 apos pos : Pos} (nb : NoneBooked X.base) (hNi : X.N[i]? = some x) (hvi : Vis X.env.scope x) (hNj : X.N[j]? = some y) (hvj : Vis X.env.scope y)
    (d1 : (x == ("__debug__" : Str)) = false := by decide) (d2 : (x == ("__classdict__" : Str)) = false := by decide) (d3 : (y == ("__debug__" : Str)) = false := by decide) (d4 : (y == ("__classdict__" : Str)) = false := by decide)
    (hst : starEach [.Subscript (.Name x p2) (.Constant (.int 1) k1 c1) q1, .Subscript (.Name x p3) (.Constant (.int 2) k2 c2) q2] X.env =
      [(false, eval (.Subscript (.Name x p2) (.Constant (.int 1) k1 c1) q1) X.env), (false, eval (.Subscript (.Name x p3) (.Constant (.int 2) k2 c2) q2) X.env)] := by rfl)
    (hbase : attributeBase (.Name y p1) "replace" X.env (eval (.Name y p1) X.env) = eval (.Name y p1) X.env := by rfl) (hline : (apos.endLine == pos.line) = true := by rfl) :
    PE X (.Call (.Attribute (.Name y p1) "replace" apos) [.Subscript (.Name x p2) (.Constant (.int 1) k1 c1) q1, .Subscript (.Name x p3) (.Constant (.int 2) k2 c2) q2] [] pos) (tReplT i j) := by
  refine ⟨fun pins s σ H Q I h => ?_⟩
  obtain ⟨v, o, n, z, hsi, hsj, ⟨a, ob, kk, t0, t1, t2, rfl, hH, hcls, hdat, n1, n2, n12⟩, ho, hb, q⟩ := h
  obtain ⟨hob, _⟩ := I.hok a _ hH
  have isT : IsTup s.heap a ([.str "replace" t0, .str (S o) t1, .str (S n) t2] : List Value).toArray := ⟨ob, hob, hcls, kk, hdat⟩
  refine PySem.Call_method2 hbase hst hline (raw_name hNj hvj I hsj (fun u r => ?_) d3 d4)
  obtain ⟨tx, rfl⟩ := r
  refine ⟨"str", _, F.plainAttrs_str, F.slot_str_replace, F.type_str_replace, typeIs_str _ _ _, (fun _ e => nomatch e), Calls.callWith_builtin rfl (Calls.evalArgs_plain (Calls.spliced_cons ?_))⟩
  refine raw_ixT (k := 1) hNi hvi I hsi isT (Nat.le_of_ble_eq_true rfl) rfl (fun k1 => ?_) d1 d2
  refine Calls.spliced_cons (raw_ixT (k := 2) hNi hvi (I.tok k1) hsi isT (Nat.le_of_ble_eq_true rfl) rfl (fun k2 => ?_) d1 d2)
  refine Calls.spliced_nil ?_
  refine replace_any n1 n2 (fun e => by rw [n12 e]) (by rw [S_len, S_len]; exact hb) (noneB nb (I.tok k2)) fun t' k => ?_
  rw [replace_S z o n ho]
  exact ⟨st (replL o n z), H, I.tok k, ⟨t', rfl⟩, q⟩
end Ev
set_option Elab.async false
set_option linter.all false
set_option maxRecDepth 100000
set_option maxHeartbeats 4000000
namespace Ev
open PySem PySem.Spec PyProof.Rows L2 Evl
open PySem.StrLaws (replL)
section
variable {P : Program} {w : World} {K : PySem.W.Frag} {mg : Str → Option Value} {base : Heap}
/-! ### check_orders, check_line -/
theorem sc_check_orders : FnScope ["value", "order"] ["value"] (defScope (top 13)) := ⟨rfl, rfl, rfl, by decide +kernel, rfl, by decide +kernel, by decide +kernel⟩
def spCheckO : Sp := fun vs H Q _ => ∃ (v : V) (os : List Od), vs = [v] ∧ OdsV H v os ∧ OkOs os ∧ SgOs os ∧ RetV .non H Q
theorem ok_check_orders (F : At K mg 13 "check_orders") (G : Gb mg) (DO : Df P w K mg base 4 "is_order" ["value"] spOrder) : Df P w K mg base 5 "check_orders" ["value"] spCheckO := by
  refine Df.made (N := ["value", "order"]) F sc_check_orders (fun _ _ _ _ _ _ us hl => match us, hl with | [_], _ => rfl) (fun vs H Q E h => ?_) (fun f cdv A outer s H vs Q E hr h => ?_)
  · obtain ⟨v, os, rfl, _⟩ := h; rfl
  obtain ⟨v, os, rfl, hv, ho, hs, q⟩ := h
  refine ⟨_, pss_cons (ps_if (pt_not (pt_val (pe_isi (pv 0) rfl G.isi rfl G.lst bi_lst))) (pss_one ps_never) pss_nil)
    (pss_one (ps_for PassesOwn.never rfl (pi_list (pv 0)) (pg_name (i := 1) sc_check_orders.nd rfl (.inl rfl))
      (pss_one (ps_if (pt_not (pt_val (pe_df DO hr (by decide) (by rfl) (pa_cons (pv 1) pa_nil)))) (pss_one ps_never) pss_nil)))), ?_⟩
  obtain ⟨a, xs, rfl, ha, hp⟩ := hv
  refine q_when (b := false) (et_not (a := true) (et_B (ev_isi (ty := "list") (ev_var rfl) (fun H1 e => tyx_l (ex_rd e ha)) (by decide +kernel)))) (fun h => nomatch h) fun _ H1 e1 => ?_
  refine s_forLn (a := a) (xs := xs) (ev_var rfl) (rd_l (ex_rd e1 ha)) (fun i σ H' => ∃ y, σ = [some (.ref a), y] ∧ Ex H H') (fun H2 e2 => ⟨none, rfl, e1.trans e2⟩) (fun i σ H' _ ⟨y, _, e⟩ => rd_l (ex_rd e ha)) (fun i x σ H' hx ⟨y, hσ, e⟩ => ?_) (fun σ H' ⟨y, hσ, e⟩ => q H' e)
  subst hσ
  obtain ⟨o, hoi, hod⟩ := paired_get hp hx
  have hmem : o ∈ os := List.mem_of_getElem? hoi
  refine s_when (b := false) (et_not (a := true) (et_B (ev_call (ea_cons (ev_var rfl) ea_nil) (spv_order (hod.mono e) (ho o hmem) fun c hc => hs c (List.mem_flatMap.mpr ⟨o, hmem, hc⟩))))) (fun h => nomatch h) fun _ H2 e2 => ⟨_, rfl, e.trans e2⟩
theorem spv_checkO {v : V} {os : List Od} {H : Hp} (hv : OdsV H v os) (ho : OkOs os) (hs : SgOs os) : SpV spCheckO [v] H .non := spv_of fun H1 e Q E q => ⟨v, os, rfl, hv.mono e, ho, hs, q⟩
theorem sc_check_line : FnScope ["value"] ["value"] (defScope (top 14)) := ⟨rfl, rfl, rfl, by decide +kernel, rfl, by decide +kernel, by decide +kernel⟩
def spCheckL : Sp := fun vs H Q _ => ∃ x : Tx, vs = [st x] ∧ AllSg x ∧ x.length ≤ 40000 ∧ RetV .non H Q
theorem ok_check_line (F : At K mg 14 "check_line") (DI : Df P w K mg base 1 "is_line" ["value"] spLine) : Df P w K mg base 2 "check_line" ["value"] spCheckL := by
  refine Df.made (N := ["value"]) F sc_check_line (fun _ _ _ _ _ _ us hl => match us, hl with | [_], _ => rfl) (fun vs H Q E h => ?_) (fun f cdv A outer s H vs Q E hr h => ?_)
  · obtain ⟨x, rfl, _⟩ := h; rfl
  obtain ⟨x, rfl, hx, hl, q⟩ := h
  refine ⟨_, pss_one (ps_if (pt_not (pt_val (pe_df DI hr (by decide) (by rfl) (pa_cons (pv 0) pa_nil)))) (pss_one ps_never) pss_nil), ?_⟩
  exact s_when (b := false) (et_not (a := true) (et_B (ev_call (ea_cons (ev_var rfl) ea_nil) (spv_line hx hl)))) (fun h => nomatch h) fun _ H1 e1 => q H1 e1
theorem spv_checkL {x : Tx} {H : Hp} (hx : AllSg x) (hl : x.length ≤ 40000) : SpV spCheckL [st x] H .non := spv_of fun H1 e Q E q => ⟨x, rfl, hx, hl, q⟩

/-! ### texts joined, dicts of signs -/
theorem joinL_nil : ∀ l : List Tx, TL.joinL [] l = l.flatten
  | [] => rfl
  | [a] => by
    show a = [a].flatten
    simp
  | a :: b :: r => by
    show a ++ ([] ++ TL.joinL [] (b :: r)) = _
    rw [joinL_nil (b :: r)]
    simp
theorem join_S (ys : List Tx) : Txt.join (S []) (ys.map S) = S ys.flatten := by
  refine str_of_list ?_
  have h := TL.tl_join (S []) (ys.map S)
  rw [TL.join_eq]
  have e : (ys.map S).map TL.tl = ys := by
    rw [List.map_map]
    conv => rhs; rw [← List.map_id ys]
    exact List.map_congr_left fun a _ => S_list a
  rw [e] at h
  show TL.tl (Str.join (S []) (ys.map S)) = _
  rw [h]
  exact joinL_nil ys
theorem flatten_one (f : Nat → Nat) (x : Tx) : (x.map fun c => [f c]).flatten = x.map f := by
  induction x with
  | nil => rfl
  | cons c x ih => simp [ih]
theorem sum_one {α : Type} (l : List α) (f : α → Tx) (n : Nat) (h : ∀ a ∈ l, (f a).length ≤ n) : ((l.map fun a => S (f a)).map fun s => s.length).sum ≤ l.length * n := by
  induction l with
  | nil => simp
  | cons a l ih =>
    have h1 := h a List.mem_cons_self
    have h2 := ih fun b hb => h b (List.mem_cons_of_mem _ hb)
    simp only [List.map_cons, List.sum_cons, List.length_cons]
    rw [S_len, Nat.add_mul, Nat.one_mul]
    omega
/-- ''.join(a new list of texts) -/
theorem ev_join {σ : L2.St} {H : Hp} {to te : TE} {ys : List Tx} (h0 : Ev to σ H (.str (S []))) (h : EvL te σ H (ys.map st)) (hz : ((ys.map S).map fun s => s.length).sum ≤ 16777216) :
    Ev (tM1 (fun x xs H Q => ∃ a p, ∃ ys : List Str, x = .str a ∧ xs = [.ref p] ∧ (SqL K H p (ys.map V.str) ∨ SqT K H p (ys.map V.str)) ∧ (ys.map (·.length)).sum + ys.length * a.length ≤ 16777216 ∧ Q (.str (Txt.join a ys)) H) to te) σ H (st ys.flatten) := fun H1 e Q q =>
  h0 H1 e _ fun H2 e2 => ⟨⟨_, rfl⟩, h H2 (e.trans e2) _ fun p H3 _ e3 hp => ⟨S [], p, ys.map S, rfl, rfl, .inl (sq_of (by rw [List.map_map]; exact hp)), by
    have : (S []).length = 0 := rfl
    rw [this, Nat.mul_zero, Nat.add_zero]
    exact hz, by rw [join_S]; exact q H3 (e2.trans e3)⟩⟩
theorem putK_new {κ : Type} [DecidableEq κ] {kvs : List (κ × V)} {k : κ} {v : V} (h : ∀ kv ∈ kvs, kv.1 ≠ k) : putK kvs k v = kvs ++ [(k, v)] := by
  unfold putK
  rw [if_neg]
  rw [List.any_eq_true]
  rintro ⟨kv, hm, e⟩
  exact h kv hm (of_decide_eq_true e)
/-- a dict comprehension over a walk -/
theorem dc_it {J : It} {n : Nat} {Gd : Hp → Prop} {Y : Nat → Hp → V → Hp → Prop} (wk : Walk J n Gd Y) {g : TG} {tt : TT} {tk tv : TE} {vs : List Nat} {σ : L2.St} {H1 : Hp} {D : Addr} {Qd : Hp → Prop} (Pv : Nat → Hp → Prop) (h0 : Pv 0 (upd H1 D (.dK []))) (hG : ∀ i H, i ≤ n → Pv i H → Gd H)
    (hs : ∀ i x H H', i < n → Pv i H → Y i H x H' → g x (wipe σ vs) H' fun σ2 H2 => wipe σ2 vs = wipe σ vs ∧ tt σ2 H2 fun b H3 =>
      if b = true then tk σ2 H3 fun y H4 => tv σ2 H4 fun z H5 => ∃ kvs k, y = kV k ∧ H5 D = some (.dK kvs) ∧ kvs.length < sizeLine ∧ Pv (i + 1) (upd H5 D (.dK (putK kvs k z))) else Pv (i + 1) H3) (hd : ∀ H, Pv n H → Qd H) :
    ∃ W : Nat → Nat → Hp → Prop, (∃ m, W 0 m (upd H1 D (.dK []))) ∧ ∀ i m H, W i m H →
      (J.stop i H ∧ Qd H) ∨ (J.go i H ∧ ∃ Nx : Hp → Prop, (∀ H', Nx H' → ∃ m', m' < m ∧ W (i + 1) m' H') ∧ ∀ x H', J.yld i H x H' → g x (wipe σ vs) H' fun σ2 H2 => wipe σ2 vs = wipe σ vs ∧ tt σ2 H2 fun b H3 =>
        if b = true then tk σ2 H3 fun y H4 => tv σ2 H4 fun z H5 => ∃ kvs k, y = kV k ∧ H5 D = some (.dK kvs) ∧ kvs.length < sizeLine ∧ Nx (upd H5 D (.dK (putK kvs k z))) else Nx H3) := by
  refine ⟨fun i m H => i + m = n ∧ Pv i H, ⟨n, Nat.zero_add n, h0⟩, fun i m H ⟨e, p⟩ => ?_⟩
  cases m with
  | zero =>
    have ei : i = n := e
    subst ei
    exact .inl ⟨wk.stops H (hG _ H (Nat.le_refl _) p), hd H p⟩
  | succ m =>
    have hi : i < n := by omega
    exact .inr ⟨wk.goes i H hi (hG i H (Nat.le_of_lt hi) p), Pv (i + 1), fun H' p' => ⟨m, Nat.lt_succ_self m, by omega, p'⟩, fun x H' y => hs i x H H' hi p (wk.yields i H x H' hi (hG i H (Nat.le_of_lt hi) p) y)⟩
def kvsM (ps : List (Nat × Nat)) : List (Key × V) := ps.map fun p => (Sum.inr (S [p.1]), st [p.2])
theorem kvs_look (ps : List (Nat × Nat)) (c : Nat) : (valV (kvsM ps) (Sum.inr (S [c]))).getD (st [c]) = st [subst1 ps c] := by
  have e : valV (kvsM ps) (Sum.inr (S [c])) = (ps.lookup c).map fun d => st [d] := by
    induction ps with
    | nil => rfl
    | cons p ps ih =>
      obtain ⟨a, b⟩ := p
      by_cases h : a = c
      · subst h
        show valV ((Sum.inr (S [a]), st [b]) :: kvsM ps) (Sum.inr (S [a])) = _
        rw [valV_pos rfl, List.lookup_cons, beq_self_eq_true]
        rfl
      · have hne : ¬ ((Sum.inr (S [a]) : Key) = Sum.inr (S [c])) := fun z => h (by have := S_inj (Sum.inr.inj z); simpa using this)
        show valV ((Sum.inr (S [a]), st [b]) :: kvsM ps) (Sum.inr (S [c])) = _
        rw [valV_neg hne, List.lookup_cons, beq_eq_false_iff_ne.mpr (fun z => h z.symm), ih]
  rw [e]
  unfold subst1
  cases ps.lookup c <;> rfl

/-! ### done -/
theorem sc_done : FnScope ["order", "line", "found", "one", "other", "sign"] ["order", "line"] (defScope (top 15)) := ⟨rfl, rfl, rfl, by decide +kernel, rfl, by decide +kernel, by decide +kernel⟩
theorem nn_done : (["order", "line", "found", "one", "other", "sign"] : List Str).Nodup := by decide +kernel
def spDone : Sp := fun vs H Q _ => ∃ (v : V) (o : Od) (x : Tx), vs = [v, st x] ∧ OdV H v o ∧ TokV H v o ∧ OkO o ∧ AllSg (namedM o) ∧ AllSg x ∧ x.length ≤ 40000 ∧ RetV (st (doneM o x)) H Q
theorem cutS_from {x : Tx} {n : Nat} : cutS (S x) (some (n : Int)) none = S (x.drop n) := by
  refine str_of_list ?_
  unfold cutS
  rw [HT.sIx_nat, HT.sIx_none, S_len]
  show (((S x).cps.toList.drop (min n x.length)).take (x.length - min n x.length)).toArray.toList = _
  rw [List.toList_toArray, S_list]
  rcases Nat.le_total n x.length with h | h
  · rw [Nat.min_eq_left h]
    exact List.take_of_length_le (by rw [List.length_drop]; omega)
  · rw [Nat.min_eq_right h, List.drop_length, List.drop_eq_nil_of_le h, List.take_nil]
theorem cutS_to {x : Tx} {n : Nat} : cutS (S x) none (some (n : Int)) = S (x.take n) := by
  refine str_of_list ?_
  unfold cutS
  rw [HT.sIx_nat, HT.sIx_none, S_len]
  show (((S x).cps.toList.drop 0).take (min n x.length - 0)).toArray.toList = _
  rw [List.toList_toArray, S_list, List.drop_zero, Nat.sub_zero]
  rcases Nat.le_total n x.length with h | h
  · rw [Nat.min_eq_left h]
  · rw [Nat.min_eq_right h, List.take_length, List.take_of_length_le h]
section
variable {σ : L2.St} {H : Hp} {ta tb te : TE} {x : Tx}
theorem rv_addS {a b : Tx} (h : a.length + b.length ≤ sizeLine) : RV (fun x y H Q => ∃ i j, x = V.str i ∧ y = V.str j ∧ i.length + j.length ≤ sizeLine ∧ Q (.str (i ++ j)) H) (st a) (st b) H (st (a ++ b)) := fun H1 _ Q q =>
  ⟨S a, S b, rfl, rfl, by rw [S_len, S_len]; exact h, by rw [S_app]; exact q H1 (Ex.refl H1)⟩
theorem ev_slS {tl th : TO} {lo hi : Option Int} {y : Tx} (h : Ev te σ H (st x)) (h1 : EvO tl σ H lo) (h2 : EvO th σ H hi) (hz : x.length ≤ sizeLine) (e : cutS (S x) lo hi = S y) : Ev (tSl rSlS te tl th) σ H (st y) := fun H1 e1 Q q =>
  h H1 e1 _ fun H2 e2 => h1 H2 (e1.trans e2) _ fun H3 e3 => h2 H3 ((e1.trans e2).trans e3) _ fun H4 e4 => ⟨S x, rfl, by rw [S_len]; exact hz, by rw [e]; exact q H4 ((e2.trans e3).trans e4)⟩
theorem ev_replT {v : V} {o n : Tx} {i j : Nat} (hi : σ[i]? = some (some v)) (hj : σ[j]? = some (some (st x))) (ht : TokV H v (.rep o n)) (ho : o ≠ []) (hz : x.length + (x.length + 1) * n.length ≤ 16777216) : Ev (tReplT i j) σ H (st (replL o n x)) := fun H1 e Q q =>
  ⟨v, o, n, x, hi, hj, TokV.mono e ht, ho, hz, q H1 (Ex.refl H1)⟩
theorem ev_dget2 {d : Addr} {kvs : List (Key × V)} {k : Key} {z : V} {td ty tx : TE} (h1 : Ev td σ H (.ref d)) (h2 : Ev ty σ H (kV k)) (h3 : Ev tx σ H z) (hd : H d = some (.dK kvs)) : Ev (tDGet2 td ty tx) σ H ((valV kvs k).getD z) := fun H1 e Q q =>
  h1 H1 e _ fun H2 e2 => ⟨d, rfl, .inl ⟨kvs, .inl (e2 _ _ (e _ _ hd))⟩, h2 H2 (e.trans e2) _ fun H3 e3 => h3 H3 ((e.trans e2).trans e3) _ fun H4 e4 => ⟨_, DGet.k (e4 _ _ (e3 _ _ (e2 _ _ (e _ _ hd)))), q H4 ((e2.trans e3).trans e4)⟩⟩
theorem range_get {α : Type} (g : Nat → α) (x : Tx) : (List.range x.length).map (fun i => g (x.getD i 0)) = x.map g := by
  refine List.ext_getElem? fun i => ?_
  rw [List.getElem?_map, List.getElem?_map]
  rcases Nat.lt_or_ge i x.length with h | h
  · rw [List.getElem?_range h, List.getElem?_eq_getElem h]
    simp [List.getD_eq_getElem?_getD, List.getElem?_eq_getElem h]
  · rw [List.getElem?_eq_none (by simpa using h), List.getElem?_eq_none h]
    rfl
end
theorem ok_done (NB : NoneBooked base) (F : At K mg 15 "done") (G : Gb mg) : Df P w K mg base 1 "done" ["order", "line"] spDone := by
  refine Df.made (N := ["order", "line", "found", "one", "other", "sign"]) F sc_done (fun _ _ _ _ _ _ us hl => match us, hl with | [_, _], _ => rfl) (fun vs H Q E h => ?_) (fun f cdv A outer s H vs Q E hr h => ?_)
  · obtain ⟨v, o, x, rfl, _⟩ := h; rfl
  refine ⟨_, pss_cons (ps_if (pt_cmpR op_eq (pe_ix ix_tup (pv 0) pe_int (fun _ _ => rfl)) pe_str (nomark _)) (pss_one (ps_ret (pe_replT (i := 0) (j := 1) NB rfl (.inl rfl) rfl (.inl rfl)))) pss_nil)
    (pss_cons (ps_if (pt_cmpR op_eq (pe_ix ix_tup (pv 0) pe_int (fun _ _ => rfl)) pe_str (nomark _)) (pss_one (ps_ret (pe_op op_add_str (pe_ix ix_tup (pv 0) pe_int (fun _ _ => rfl)) (pv 1)))) pss_nil)
    (pss_cons (ps_if (pt_cmpR op_eq (pe_ix ix_tup (pv 0) pe_int (fun _ _ => rfl)) pe_str (nomark _)) (pss_one (ps_ret (pe_op op_add_str (pv 1) (pe_ix ix_tup (pv 0) pe_int (fun _ _ => rfl))))) pss_nil)
    (pss_cons (ps_if (pt_cmpR op_eq (pe_ix ix_tup (pv 0) pe_int (fun _ _ => rfl)) pe_str (nomark _)) (pss_one (ps_ret (pe_slice sl_str (pv 1) (po_some (pe_ix ix_tup (pv 0) pe_int (fun _ _ => rfl))) po_none))) pss_nil)
    (pss_cons (ps_if (pt_cmpR op_eq (pe_ix ix_tup (pv 0) pe_int (fun _ _ => rfl)) pe_str (nomark _)) (pss_one (ps_ret (pe_slice sl_str (pv 1) po_none
        (po_some (pe_callB (call_max2 rfl) (by rfl) G.max bi_max (pa_cons pe_int (pa_cons (pe_op op_sub (pe_callB call_len_str (by rfl) G.len bi_len (pa_cons (pv 1) pa_nil)) (pe_ix ix_tup (pv 0) pe_int (fun _ _ => rfl))) pa_nil))))))) pss_nil)
    (pss_cons (ps_set (i := 2) nn_done rfl (.inr rfl) (pe_dc (own := [("one", 3), ("other", 4)]) (g := gTup K 2 (gCons (gName 3) (gCons (gName 4) gNil))) rfl nn_done (pi_list (pe_ix ix_tup (pv 0) pe_int (fun _ _ => rfl))) (blkOk_by (own := [("one", 3), ("other", 4)]) (N := ["order", "line", "found", "one", "other", "sign"]) (sc := defScope (top 15)) (by decide +kernel))
        (fun _ _ _ _ _ => pg_tup rfl (pgs_cons (pg_name (i := 3) nn_done rfl (.inl rfl) (.inr rfl)) (pgs_cons (pg_name (i := 4) nn_done rfl (.inl rfl) (.inr rfl)) pgs_nil))) (fun _ _ _ _ _ => pts_nil) (fun _ _ _ _ _ => pv 3) (fun _ _ _ _ _ => pv 4)))
    (pss_one (ps_ret (pe_join pe_str (pe_lc (own := [("sign", 5)]) (g := gName 5) rfl nn_done (pi_str (pv 1)) (blkOk_by (own := [("sign", 5)]) (N := ["order", "line", "found", "one", "other", "sign"]) (sc := defScope (top 15)) (by decide +kernel))
        (fun _ _ _ _ _ => pg_name (i := 5) nn_done rfl (.inl rfl)) (fun _ _ _ _ _ => pts_nil) (fun _ _ _ _ _ => pe_dget2 (hu_of hr) (pv 2) (pv 5) (pv 5) ⟨rfl, rfl, rfl, rfl⟩)))))))))), ?_⟩
  obtain ⟨v, od, x, rfl, hv, ht, ho, hs, hx, hl, q⟩ := h
  have hz : x.length ≤ sizeLine := Nat.le_trans hl (by decide)
  have small : ∀ {n : Nat}, n ≤ 100000 → n ≤ sizeLine := fun h => Nat.le_trans h (by decide)
  cases od with
  | rep o n =>
    obtain ⟨a, rfl, ha⟩ := hv
    refine q_when (b := true) (et_test (ev_op (ev_ixT (i := 0) (ev_var rfl) ev_c ha rfl) ev_c (rv_eq rfl))) (fun _ G0 e0 => ?_) fun h => nomatch h
    have ha0 := ex_rd e0 ha
    have ee := e0
    have z3 := ho.2.2
    have z4 : (x.length + 1) * n.length ≤ (x.length + 1) * 3 := Nat.mul_le_mul_left _ z3
    exact s_ret (ev_replT (o := o) (n := n) (x := x) rfl rfl (TokV.mono ee ht) ho.1 (by omega)) fun H1 e1 => q H1 (ee.trans e1)
  | front w =>
    obtain ⟨a, rfl, ha⟩ := hv
    have z3 : w.length ≤ 3 := ho
    refine q_when (b := false) (et_test (ev_op (ev_ixT (i := 0) (ev_var rfl) ev_c ha rfl) ev_c (rv_eq rfl))) (fun h => nomatch h) fun _ G0 e0 => ?_
    have ha0 := ex_rd e0 ha
    refine q_when (b := true) (et_test (ev_op (ev_ixT (i := 0) (ev_var rfl) ev_c ha0 rfl) ev_c (rv_eq rfl))) (fun _ G1 e1 => ?_) fun h => nomatch h
    have ha1 := ex_rd e1 ha0
    have ee := (e0.trans e1)
    exact s_ret (ev_op (ev_ixT (i := 1) (ev_var rfl) ev_c ha1 rfl) (ev_var rfl) (rv_addS (a := w) (b := x) (small (by omega)))) fun H1 e1 => q H1 (ee.trans e1)
  | back w =>
    obtain ⟨a, rfl, ha⟩ := hv
    have z3 : w.length ≤ 3 := ho
    refine q_when (b := false) (et_test (ev_op (ev_ixT (i := 0) (ev_var rfl) ev_c ha rfl) ev_c (rv_eq rfl))) (fun h => nomatch h) fun _ G0 e0 => ?_
    have ha0 := ex_rd e0 ha
    refine q_when (b := false) (et_test (ev_op (ev_ixT (i := 0) (ev_var rfl) ev_c ha0 rfl) ev_c (rv_eq rfl))) (fun h => nomatch h) fun _ G1 e1 => ?_
    have ha1 := ex_rd e1 ha0
    refine q_when (b := true) (et_test (ev_op (ev_ixT (i := 0) (ev_var rfl) ev_c ha1 rfl) ev_c (rv_eq rfl))) (fun _ G2 e2 => ?_) fun h => nomatch h
    have ha2 := ex_rd e2 ha1
    have ee := ((e0.trans e1).trans e2)
    exact s_ret (ev_op (ev_var rfl) (ev_ixT (i := 1) (ev_var rfl) ev_c ha2 rfl) (rv_addS (a := x) (b := w) (small (by omega)))) fun H1 e1 => q H1 (ee.trans e1)
  | first n =>
    obtain ⟨a, rfl, ha⟩ := hv
    refine q_when (b := false) (et_test (ev_op (ev_ixT (i := 0) (ev_var rfl) ev_c ha rfl) ev_c (rv_eq rfl))) (fun h => nomatch h) fun _ G0 e0 => ?_
    have ha0 := ex_rd e0 ha
    refine q_when (b := false) (et_test (ev_op (ev_ixT (i := 0) (ev_var rfl) ev_c ha0 rfl) ev_c (rv_eq rfl))) (fun h => nomatch h) fun _ G1 e1 => ?_
    have ha1 := ex_rd e1 ha0
    refine q_when (b := false) (et_test (ev_op (ev_ixT (i := 0) (ev_var rfl) ev_c ha1 rfl) ev_c (rv_eq rfl))) (fun h => nomatch h) fun _ G2 e2 => ?_
    have ha2 := ex_rd e2 ha1
    refine q_when (b := true) (et_test (ev_op (ev_ixT (i := 0) (ev_var rfl) ev_c ha2 rfl) ev_c (rv_eq rfl))) (fun _ G3 e3 => ?_) fun h => nomatch h
    have ha3 := ex_rd e3 ha2
    have ee := (((e0.trans e1).trans e2).trans e3)
    exact s_ret (ev_slS (x := x) (ev_var rfl) (eo_some (ev_ixT (i := 1) (ev_var rfl) ev_c ha3 rfl)) eo_none hz cutS_from) fun H1 e1 => q H1 (ee.trans e1)
  | last n =>
    obtain ⟨a, rfl, ha⟩ := hv
    refine q_when (b := false) (et_test (ev_op (ev_ixT (i := 0) (ev_var rfl) ev_c ha rfl) ev_c (rv_eq rfl))) (fun h => nomatch h) fun _ G0 e0 => ?_
    have ha0 := ex_rd e0 ha
    refine q_when (b := false) (et_test (ev_op (ev_ixT (i := 0) (ev_var rfl) ev_c ha0 rfl) ev_c (rv_eq rfl))) (fun h => nomatch h) fun _ G1 e1 => ?_
    have ha1 := ex_rd e1 ha0
    refine q_when (b := false) (et_test (ev_op (ev_ixT (i := 0) (ev_var rfl) ev_c ha1 rfl) ev_c (rv_eq rfl))) (fun h => nomatch h) fun _ G2 e2 => ?_
    have ha2 := ex_rd e2 ha1
    refine q_when (b := false) (et_test (ev_op (ev_ixT (i := 0) (ev_var rfl) ev_c ha2 rfl) ev_c (rv_eq rfl))) (fun h => nomatch h) fun _ G3 e3 => ?_
    have ha3 := ex_rd e3 ha2
    refine q_when (b := true) (et_test (ev_op (ev_ixT (i := 0) (ev_var rfl) ev_c ha3 rfl) ev_c (rv_eq rfl))) (fun _ G4 e4 => ?_) fun h => nomatch h
    have ha4 := ex_rd e4 ha3
    have ee := ((((e0.trans e1).trans e2).trans e3).trans e4)
    have em : (if ((x.length : Int) - (n : Int)) > 0 then ((x.length : Int) - (n : Int)) else 0) = ((x.length - n : Nat) : Int) := by split <;> omega
    refine s_ret (ev_slS (x := x) (lo := none) (hi := some ((x.length - n : Nat) : Int)) (ev_var rfl) eo_none (eo_some ?_) hz cutS_to) fun H1 e1 => q H1 (ee.trans e1)
    rw [← em]
    exact ev_max2 ev_c (ev_op (ev_lenS (ev_var rfl) hz) (ev_ixT (i := 1) (ev_var rfl) ev_c ha4 rfl) rv_I0)
  | letters ps =>
    obtain ⟨a, l, xs, rfl, ha, hl2, hp⟩ := hv
    refine q_when (b := false) (et_test (ev_op (ev_ixT (i := 0) (ev_var rfl) ev_c ha rfl) ev_c (rv_eq rfl))) (fun h => nomatch h) fun _ G0 e0 => ?_
    have ha0 := ex_rd e0 ha
    refine q_when (b := false) (et_test (ev_op (ev_ixT (i := 0) (ev_var rfl) ev_c ha0 rfl) ev_c (rv_eq rfl))) (fun h => nomatch h) fun _ G1 e1 => ?_
    have ha1 := ex_rd e1 ha0
    refine q_when (b := false) (et_test (ev_op (ev_ixT (i := 0) (ev_var rfl) ev_c ha1 rfl) ev_c (rv_eq rfl))) (fun h => nomatch h) fun _ G2 e2 => ?_
    have ha2 := ex_rd e2 ha1
    refine q_when (b := false) (et_test (ev_op (ev_ixT (i := 0) (ev_var rfl) ev_c ha2 rfl) ev_c (rv_eq rfl))) (fun h => nomatch h) fun _ G3 e3 => ?_
    have ha3 := ex_rd e3 ha2
    refine q_when (b := false) (et_test (ev_op (ev_ixT (i := 0) (ev_var rfl) ev_c ha3 rfl) ev_c (rv_eq rfl))) (fun h => nomatch h) fun _ G4 e4 => ?_
    have ha4 := ex_rd e4 ha3
    have ee := ((((e0.trans e1).trans e2).trans e3).trans e4)
    have hl2' := ex_rd ee hl2
    unfold tSeq tAsg tDc iList
    refine ev_ixT (i := 1) (ev_var rfl) ev_c ha4 rfl _ (Ex.refl _) _ fun G6 e6 => ⟨l, rfl, ⟨xs, rd_l (ex_rd e6 hl2')⟩, fun d nd => ?_⟩
    have e06 := ee.trans e6
    have nd0 : H d = none := fresh_back e06 nd
    refine dc_it (walk_list (xs := xs)) (fun i H' => Ex H H' ∧ H' d = some (.dK (kvsM (ps.take i)))) ⟨e06.mut nd0, upd_same⟩ (fun i H' _ p => rd_l (ex_rd p.1 hl2)) (fun i y H1 H2 hi p hy => ?_) fun H' p => ?_
    · obtain ⟨rfl, hy⟩ := hy
      obtain ⟨pr, hpi, b, rfl, hb⟩ := paired_get hp hy
      refine ⟨b, [st [pr.1], st [pr.2]], rfl, rd_t (ex_rd p.1 hb), rfl, _, _, rfl, _, _, rfl, rfl, ?_⟩
      refine ⟨rfl, ?_⟩
      refine ⟨_, rfl, _, rfl, kvsM (ps.take i), .inr (S [pr.1]), rfl, p.2, ?_, p.1.mut nd0, ?_⟩
      · have : (kvsM (ps.take i)).length ≤ 8 := by
          unfold kvsM
          rw [List.length_map, List.length_take]
          have := ho.2
          omega
        exact Nat.lt_of_le_of_lt this (by decide)
      · rw [upd_same, putK_new]
        · unfold kvsM
          rw [List.take_add_one, hpi, List.map_append]
          rfl
        · rintro kv hm e
          obtain ⟨p', hp', rfl⟩ := List.mem_map.mp hm
          have e1 : p'.1 = pr.1 := by
            have := S_inj (Sum.inr.inj e)
            simpa using this
          obtain ⟨j, hj, ej⟩ := List.getElem_of_mem hp'
          rw [List.length_take] at hj
          rw [List.getElem_take] at ej
          obtain ⟨hi', ei⟩ := List.getElem?_eq_some_iff.mp hpi
          have nd1 := ho.1
          rw [List.Nodup, List.pairwise_map] at nd1
          have := List.pairwise_iff_getElem.mp nd1 j i (by omega) hi' (by omega)
          rw [ej, ei] at this
          exact this e1
    · obtain ⟨p1, p2⟩ := p
      have hlen : xs.length = ps.length := paired_len hp
      rw [hlen, List.take_length] at p2
      refine s_ret (ev_is (ev_join (ys := x.map fun c => [subst1 ps c]) ev_c (el_is (el_lcS (f := fun _ => true) (v := fun i => st [subst1 ps (x.getD i 0)]) (ev_var rfl) hl (fun _ => rfl) (fun i c H1 e hc => fun H2 e2 Q q2 => q2 H2 (Ex.refl H2)) (fun i c H1 e hc _ => ?_)) ?_) ?_) ?_) fun H1 e1 => q H1 (p1.trans e1)
      · have hx' : x.getD i 0 = c := by rw [List.getD_eq_getElem?_getD, hc]; rfl
        rw [hx', ← kvs_look]
        exact ev_dget2 (k := .inr (S [c])) (ev_var rfl) (ev_var rfl) (ev_var rfl) (e _ _ p2)
      · rw [given_all fun _ _ => rfl, range_get (fun c => st [subst1 ps c]) x, List.map_map]
        rfl
      · have e8 : ((x.map fun c => [subst1 ps c]).map S) = x.map fun c => S [subst1 ps c] := by rw [List.map_map]; rfl
        rw [e8]
        exact Nat.le_trans (sum_one x (fun c => [subst1 ps c]) 1 (fun _ _ => Nat.le_refl _)) (show x.length * 1 ≤ 16777216 by omega)
      · rw [flatten_one]
        rfl
theorem spv_done {v : V} {o : Od} {x : Tx} {H : Hp} (hv : OdV H v o) (ht : TokV H v o) (ho : OkO o) (hs : AllSg (namedM o)) (hx : AllSg x) (hl : x.length ≤ 40000) : SpV spDone [v, st x] H (st (doneM o x)) :=
  spv_of fun H1 e Q E q => ⟨v, o, x, rfl, hv.mono e, ht.mono e, ho, hs, hx, hl, q⟩
end
end Ev
set_option Elab.async false
set_option linter.all false
set_option maxRecDepth 100000
set_option maxHeartbeats 4000000
namespace Ev
open PySem PySem.Spec PyProof.Rows L2 Evl
open PySem.StrLaws (replL)
/-! ### sizes of what is played -/
theorem done_size (o : Od) (ho : OkO o) (x : Tx) : (doneM o x).length + 2 ≤ 3 * (x.length + 2) := by
  rw [doneM_sem o ho, List.length_append]
  have h1 := sem_size o ho _ (okS_init o ho) x
  cases o with
  | front w =>
    have h0 := front_size (.front w) ho
    have e : semM (.front w) (initM (.front w)) x = x := by
      show semM (.front w) (.txt []) x = x
      unfold semM
      rw [sem_same (.front w) (fun _ => rfl)]
      show x ++ [] = x
      rw [List.append_nil]
    rw [e]
    omega
  | _ => all_goals (show ([] : Tx).length + _ + 2 ≤ _; simp only [List.length_nil]; omega)
theorem played_size : ∀ (os : List Od) (x : Tx), OkOs os → (playedM os x).length + 2 ≤ pow3 os * (x.length + 2)
  | [], x, _ => by show x.length + 2 ≤ 1 * (x.length + 2); omega
  | o :: os, x, ho => by
    have h1 := done_size o ho.head x
    have h2 := played_size os (doneM o x) ho.tail
    have h3 : pow3 os * ((doneM o x).length + 2) ≤ pow3 os * (3 * (x.length + 2)) := Nat.mul_le_mul_left _ h1
    show (playedM os (doneM o x)).length + 2 ≤ 3 * pow3 os * (x.length + 2)
    have h4 : pow3 os * (3 * (x.length + 2)) = 3 * pow3 os * (x.length + 2) := by rw [Nat.mul_comm 3 (pow3 os), Nat.mul_assoc]
    omega
theorem pow3_take : ∀ (os : List Od) (i : Nat), pow3 (os.take i) ≤ pow3 os
  | [], i => by simp
  | o :: os, 0 => by show 1 ≤ _; exact pow3_pos _
  | o :: os, i + 1 => by
    have := pow3_take os i
    show 3 * pow3 (os.take i) ≤ 3 * pow3 os
    omega
theorem played_take (os : List Od) (i : Nat) (x : Tx) (o : Od) (h : os[i]? = some o) : playedM (os.take (i + 1)) x = doneM o (playedM (os.take i) x) := by
  rw [List.take_add_one, h, playedM_append]
  rfl
theorem OkOs.take {os : List Od} (h : OkOs os) (i : Nat) : OkOs (os.take i) := fun o ho => h o (List.mem_of_mem_take ho)
theorem SgOs.take {os : List Od} (h : SgOs os) (i : Nat) : SgOs (os.take i) := fun c hc => by
  obtain ⟨o, ho, hc⟩ := List.mem_flatMap.mp hc
  exact h c (List.mem_flatMap.mpr ⟨o, List.mem_of_mem_take ho, hc⟩)
theorem SgOs.of {os : List Od} (h : SgOs os) {o : Od} (ho : o ∈ os) : AllSg (namedM o) := fun c hc => h c (List.mem_flatMap.mpr ⟨o, ho, hc⟩)
def OdsT (H : Hp) (v : V) (os : List Od) : Prop := ∃ a vs, v = .ref a ∧ Rd H a (.lst vs) ∧ Paired (fun v o => OdV H v o ∧ TokV H v o) vs os
theorem OdsT.mono {H H' : Hp} {v : V} {os : List Od} (e : Ex H H') (h : OdsT H v os) : OdsT H' v os := by
  obtain ⟨a, vs, h1, h2, h3⟩ := h
  exact ⟨a, vs, h1, ex_rd e h2, L2.Paired.mapP h3 fun x y z => ⟨z.1.mono e, z.2.mono e⟩⟩
theorem OdsT.odsV {H : Hp} {v : V} {os : List Od} (h : OdsT H v os) : OdsV H v os := by
  obtain ⟨a, vs, h1, h2, h3⟩ := h
  exact ⟨a, vs, h1, h2, L2.Paired.mapP h3 fun x y z => z.1⟩
section
variable {P : Program} {w : World} {K : PySem.W.Frag} {mg : Str → Option Value} {base : Heap}
/-! ### played -/
theorem sc_played : FnScope ["orders", "line", "order"] ["orders", "line"] (defScope (top 16)) := ⟨rfl, rfl, rfl, by decide +kernel, rfl, by decide +kernel, by decide +kernel⟩
def spPlayed : Sp := fun vs H Q _ => ∃ (v : V) (os : List Od) (x : Tx), vs = [v, st x] ∧ OdsT H v os ∧ OkOs os ∧ SgOs os ∧ AllSg x ∧ pow3 os * (x.length + 2) ≤ 40000 ∧ RetV (st (playedM os x)) H Q
theorem ok_played (F : At K mg 16 "played") (DC : Df P w K mg base 5 "check_orders" ["value"] spCheckO) (DL : Df P w K mg base 2 "check_line" ["value"] spCheckL) (DD : Df P w K mg base 1 "done" ["order", "line"] spDone) : Df P w K mg base 6 "played" ["orders", "line"] spPlayed := by
  refine Df.made (N := ["orders", "line", "order"]) F sc_played (fun _ _ _ _ _ _ us hl => match us, hl with | [_, _], _ => rfl) (fun vs H Q E h => ?_) (fun f cdv A outer s H vs Q E hr h => ?_)
  · obtain ⟨v, os, x, rfl, _⟩ := h; rfl
  refine ⟨_, pss_cons (ps_expr (pe_df DC hr (by decide) (by rfl) (pa_cons (pv 0) pa_nil))) (pss_cons (ps_expr (pe_df DL hr (by decide) (by rfl) (pa_cons (pv 1) pa_nil)))
    (pss_cons (ps_for PassesOwn.never rfl (pi_list (pv 0)) (pg_name (i := 2) sc_played.nd rfl (.inl rfl)) (pss_one (ps_set (i := 1) sc_played.nd rfl (.inl rfl) (pe_df DD hr (by decide) (by rfl) (pa_cons (pv 2) (pa_cons (pv 1) pa_nil))))))
    (pss_one (ps_ret (pv 1))))), ?_⟩
  obtain ⟨v, os, x, rfl, hv, ho, hs, hx, hz, q⟩ := h
  have hz0 : x.length ≤ 40000 := by
    have h1 := played_size [] x (fun _ h => nomatch h)
    have h2 : 1 * (x.length + 2) ≤ pow3 os * (x.length + 2) := Nat.mul_le_mul_right _ (pow3_pos os)
    omega
  refine q_drop (ev_call (ea_cons (ev_var rfl) ea_nil) (spv_checkO hv.odsV ho hs)) fun H1 e1 => ?_
  refine q_drop (ev_call (ea_cons (ev_var rfl) ea_nil) (spv_checkL hx hz0)) fun H2 e2 => ?_
  obtain ⟨a, xs, rfl, ha, hp⟩ := hv
  have e02 := e1.trans e2
  refine q_forLn (a := a) (xs := xs) (ev_var rfl) (rd_l (ex_rd e02 ha)) (fun i σ H' => ∃ y, σ = [some (.ref a), some (st (playedM (os.take i) x)), y] ∧ Ex H H')
    (fun H3 e3 => ⟨none, rfl, e02.trans e3⟩) (fun i σ H' _ ⟨y, _, e⟩ => rd_l (ex_rd e ha)) (fun i y σ H' hi ⟨y', hσ, e⟩ => ?_) (fun σ H' ⟨y, hσ, e⟩ => ?_)
  · subst hσ
    obtain ⟨o, hoi, hod, hot⟩ := paired_get hp hi
    have hmem : o ∈ os := List.mem_of_getElem? hoi
    refine s_asg (ev_call (ea_cons (ev_var rfl) (ea_cons (ev_var rfl) ea_nil)) (spv_done (hod.mono e) (hot.mono e) (ho o hmem) (hs.of hmem) (sg_played _ _ (hs.take i) hx) ?_)) fun H4 e4 => ⟨some y, ?_, e.trans e4⟩
    · have h1 := played_size (os.take i) x (ho.take i)
      have h2 : pow3 (os.take i) * (x.length + 2) ≤ pow3 os * (x.length + 2) := Nat.mul_le_mul_right _ (pow3_take os i)
      omega
    · rw [played_take os i x o hoi]
      rfl
  · subst hσ
    rw [paired_len hp, List.take_length]
    exact s_ret (ev_var rfl) fun H4 e4 => q H4 (e.trans e4)
theorem spv_played {v : V} {os : List Od} {x : Tx} {H : Hp} (hv : OdsT H v os) (ho : OkOs os) (hs : SgOs os) (hx : AllSg x) (hz : pow3 os * (x.length + 2) ≤ 40000) : SpV spPlayed [v, st x] H (st (playedM os x)) :=
  spv_of fun H1 e Q E q => ⟨v, os, x, rfl, hv.mono e, ho, hs, hx, hz, q⟩

/-! ### fed -/
def MsV : Ms → V
  | .txt t => st t
  | .num n => .int n
theorem sc_fed : FnScope ["order", "state", "sign", "held", "out"] ["order", "state", "sign"] (defScope (top 17)) := ⟨rfl, rfl, rfl, by decide +kernel, rfl, by decide +kernel, by decide +kernel⟩
def spFed : Sp := fun vs H Q _ => ∃ (v : V) (o : Od) (s : Ms) (c : Nat), vs = [v, MsV s, st [c]] ∧ OdV H v o ∧ OkO o ∧ OkS o s ∧ AllSg (namedM o) ∧ c ∈ SG ∧ RetU [MsV (fedM o s c).1, st (fedM o s c).2] H Q
section
variable {σ : L2.St} {H : Hp} {ta tb te : TE} {t : TT} {xs : List V}
theorem eu_if {b : Bool} (h : EvT t σ H b) (h1 : b = true → EvU ta σ H xs) (h2 : b = false → EvU tb σ H xs) : EvU (tIf t ta tb) σ H xs := fun H1 e Q q => h H1 e _ fun H2 e2 => by
  cases b with
  | true =>
    show ta σ H2 Q
    exact h1 rfl H2 (e.trans e2) Q fun p H3 hp e3 => q p H3 (fresh_back e2 hp) (e2.trans e3)
  | false =>
    show tb σ H2 Q
    exact h2 rfl H2 (e.trans e2) Q fun p H3 hp e3 => q p H3 (fresh_back e2 hp) (e2.trans e3)
theorem len2 {x y : V} : [x, y].length ≤ 100000 := Nat.le_of_ble_eq_true rfl
def ipS : TIp := fun x y H Q => ∃ i j, x = V.str i ∧ y = V.str j ∧ i.length + j.length ≤ sizeLine ∧ Q (.str (i ++ j)) H
theorem ip_addS {X : Cx} : PIp X .Add ipS := fun pins s σ H x y v u Q I r1 r2 h => iop_add_str pins s σ H x y v u Q I r1 r2 h
theorem s_augS {D : Ends} {i : Nat} {a b : Tx} (hx : σ[i]? = some (some (st a))) (h : Ev te σ H (st b)) (hz : a.length + b.length ≤ sizeLine) (k : ∀ H1, Ex H H1 → D.nx (σ.set i (some (st (a ++ b)))) H1) : tAug i te ipS D σ H :=
  ⟨st a, hx, h H (Ex.refl H) _ fun H1 e => ⟨S a, S b, rfl, rfl, by rw [S_len, S_len]; exact hz, by rw [S_app]; exact k H1 e⟩⟩
theorem q_augS {D : Ends} {tz : TS} {i : Nat} {a b : Tx} (hx : σ[i]? = some (some (st a))) (h : Ev te σ H (st b)) (hz : a.length + b.length ≤ sizeLine) (k : ∀ H1, Ex H H1 → tz D (σ.set i (some (st (a ++ b)))) H1) : tSeq (tAug i te ipS) tz D σ H :=
  s_augS (D := { D with nx := tz D }) hx h hz k
theorem rv_ixS' {x : Tx} {i c : Nat} (hz : x.length ≤ 100000) (h : x[i]? = some c) : RV rIxS (st x) (.int (i : Int)) H (st [c]) := rv_ixS (by rw [S_len]; exact hz) (by rw [S_list]; exact atI_nat h)
theorem rv_eqS {a b : Tx} : RV rEq (st a) (st b) H (.bl (decide (a = b))) := by
  have h := rv_eq (H := H) (x := st a) (y := st b) rfl
  have e : decide (st a = st b) = decide (a = b) := by
    by_cases h : a = b
    · simp [h]
    · have : ¬ (st a = st b) := fun z => h (S_inj (V.str.inj z))
      simp [h, this]
  rw [e] at h
  exact h
theorem rv_neS {a b : Tx} : RV rNe (st a) (st b) H (.bl (!decide (a = b))) := by
  have h := rv_ne (H := H) (x := st a) (y := st b) rfl
  have e : decide (st a = st b) = decide (a = b) := by
    by_cases h : a = b
    · simp [h]
    · have : ¬ (st a = st b) := fun z => h (S_inj (V.str.inj z))
      simp [h, this]
  rw [e] at h
  exact h
theorem starts_S (x y : Tx) : Txt.startswith (S x) (S y) = y.isPrefixOf x := by
  unfold Txt.startswith Builtin.Str.subAt
  rw [S_len, S_len]
  have e : ((S x).cps.extract 0 (0 + y.length)) = (x.take y.length).toArray := by
    rw [Nat.zero_add]
    apply Array.toList_inj.mp
    simp
  rw [e]
  rw [Bool.eq_iff_iff, List.isPrefixOf_iff_prefix, Bool.and_eq_true, decide_eq_true_eq, beq_iff_eq]
  have e2 : (x.take y.length).toArray = (S y).cps ↔ x.take y.length = y := by
    constructor
    · intro h
      have := congrArg Array.toList h
      simpa using this
    · intro h
      rw [h]
  rw [e2]
  constructor
  · rintro ⟨_, h⟩
    rw [← h]
    exact List.take_prefix _ _
  · intro h
    have h1 := h.length_le
    obtain ⟨z, rfl⟩ := h
    exact ⟨by simp, List.take_left' rfl⟩
/-- x.startswith(y) -/
abbrev rStarts : V → List V → Hp → VK → Prop := fun x xs H Q => ∃ a b, x = .str a ∧ xs = [.str b] ∧ Q (.bl (Txt.startswith a b)) H
theorem ev_starts {x y : Tx} (h1 : Ev ta σ H (st x)) (h2 : Ev tb σ H (st y)) : Ev (tM1 rStarts ta tb) σ H (.bl (y.isPrefixOf x)) := fun H1 e Q q =>
  h1 H1 e _ fun H2 e2 => ⟨⟨_, rfl⟩, h2 H2 (e.trans e2) _ fun H3 e3 => ⟨S x, S y, rfl, rfl, by rw [starts_S]; exact q H3 (e2.trans e3)⟩⟩
end

theorem ok_fed (F : At K mg 17 "fed") (G : Gb mg) (DD : Df P w K mg base 1 "done" ["order", "line"] spDone) : Df P w K mg base 2 "fed" ["order", "state", "sign"] spFed := by
  refine Df.made (N := ["order", "state", "sign", "held", "out"]) F sc_fed (fun _ _ _ _ _ _ us hl => match us, hl with | [_, _, _], _ => rfl) (fun vs H Q E h => ?_) (fun f cdv A outer s H vs Q E hr h => ?_)
  · obtain ⟨v, o, s, c, rfl, _⟩ := h; rfl
  refine ⟨_, pss_cons (ps_if (pt_cmpR op_eq (pe_ix ix_tup (pv 0) pe_int (fun _ _ => rfl)) pe_str (nomark _))
      (pss_cons (ps_set (i := 3) sc_fed.nd rfl (.inl rfl) (pe_op op_add_str (pv 1) (pv 2)))
      (pss_cons (ps_if (pt_cmpR op_eq (pv 3) (pe_ix ix_tup (pv 0) pe_int (fun _ _ => rfl)) (nomark _)) (pss_one (ps_ret (pe_tup (pa_cons pe_str (pa_cons (pe_ix ix_tup (pv 0) pe_int (fun _ _ => rfl)) pa_nil))))) pss_nil)
      (pss_cons (ps_set (i := 4) sc_fed.nd rfl (.inl rfl) pe_str)
      (pss_cons (ps_while PassesOwn.never (PW.pt (pw_and (pt_cmpR op_ne (pv 3) pe_str (nomark _)) (pw_and1 (pt_not (pt_val (pe_m1 PySem.F.slot_str_startswith PySem.F.type_str_startswith mt_startswith (pe_ix ix_tup (pv 0) pe_int (fun _ _ => rfl)) (pv 3)))))))
        (pss_cons (ps_aug (i := 4) sc_fed.nd rfl (.inl rfl) (pe_ix ix_str (pv 3) pe_int (fun _ _ => rfl)) ip_addS) (pss_one (ps_set (i := 3) sc_fed.nd rfl (.inl rfl) (pe_slice sl_str (pv 3) (po_some pe_int) po_none)))))
      (pss_one (ps_ret (pe_tup (pa_cons (pv 3) (pa_cons (pv 4) pa_nil))))))))) pss_nil)
    (pss_cons (ps_if (pt_cmpR op_eq (pe_ix ix_tup (pv 0) pe_int (fun _ _ => rfl)) pe_str (nomark _))
      (pss_one (ps_ret (pe_ifExp (pt_cmpR op_gt (pv 1) pe_int (nomark _)) (pe_tup (pa_cons (pe_op op_sub (pv 1) pe_int) (pa_cons pe_str pa_nil))) (pe_tup (pa_cons pe_int (pa_cons (pv 2) pa_nil)))))) pss_nil)
    (pss_cons (ps_if (pt_cmpR op_eq (pe_ix ix_tup (pv 0) pe_int (fun _ _ => rfl)) pe_str (nomark _))
      (pss_cons (ps_set (i := 3) sc_fed.nd rfl (.inl rfl) (pe_op op_add_str (pv 1) (pv 2)))
      (pss_one (ps_ret (pe_ifExp (pt_cmpR op_gt (pe_callB call_len_str (by rfl) G.len bi_len (pa_cons (pv 3) pa_nil)) (pe_ix ix_tup (pv 0) pe_int (fun _ _ => rfl)) (nomark _))
        (pe_tup (pa_cons (pe_slice sl_str (pv 3) (po_some pe_int) po_none) (pa_cons (pe_ix ix_str (pv 3) pe_int (fun _ _ => rfl)) pa_nil))) (pe_tup (pa_cons (pv 3) (pa_cons pe_str pa_nil))))))) pss_nil)
    (pss_one (ps_ret (pe_tup (pa_cons (pv 1) (pa_cons (pe_ifExp (pt_cmpR op_eq (pe_ix ix_tup (pv 0) pe_int (fun _ _ => rfl)) pe_str (nomark _)) (pe_df DD hr (by decide) (by rfl) (pa_cons (pv 0) (pa_cons (pv 2) pa_nil))) (pv 2)) pa_nil))))))), ?_⟩
  obtain ⟨v, o, s, c, rfl, hv, ho, hst, hs, hc, q⟩ := h
  have small : ∀ {n : Nat}, n ≤ 100000 → n ≤ sizeLine := fun h => Nat.le_trans h (by decide)
  cases o with
  | rep o n => cases s with
    | num k => exact hst.elim
    | txt h =>
      obtain ⟨a, rfl, ha⟩ := hv
      refine q_when (b := true) (et_test (ev_op (ev_ixT (i := 0) (ev_var rfl) ev_c ha rfl) ev_c (rv_eq rfl))) (fun _ G0 e0 => ?_) fun h => nomatch h
      have ha0 := ex_rd e0 ha
      have ee := e0
      have hb := ha0
      have hlo := ho.2.1
      have hlh := hst.1
      refine q_asg (ev_op (ev_var rfl) (ev_var rfl) (rv_addS (a := h) (b := [c]) (small (by simp; omega)))) fun G1 e1 => ?_
      have hb1 := ex_rd e1 hb
      refine q_when (b := decide (h ++ [c] = o)) (et_test (ev_op (ev_var rfl) (ev_ixT (i := 1) (ev_var rfl) ev_c hb1 rfl) rv_eqS)) (fun hq G2 e2 => ?_) (fun hq G2 e2 => ?_)
      · have hq' := of_decide_eq_true hq
        have ef : fedM (.rep o n) (.txt h) c = (.txt [], n) := if_pos hq'
        rw [ef] at q
        exact s_retU (eu_tup (ea_cons ev_c (ea_cons (ev_ixT (i := 2) (ev_var rfl) ev_c (ex_rd e2 hb1) rfl) ea_nil)) len2) fun p H1 hp e h1 => q p H1 (fresh_back ((ee.trans e1).trans e2) hp) (((ee.trans e1).trans e2).trans e) h1
      · have hq' : ¬ (h ++ [c] = o) := of_decide_eq_false hq
        have ef : fedM (.rep o n) (.txt h) c = (.txt (shiftM o (h ++ [c])).1, (shiftM o (h ++ [c])).2) := if_neg hq'
        rw [ef] at q
        have eH := (ee.trans e1).trans e2
        refine q_asg ev_c fun G3 e3 => ?_
        refine q_while (fun m σ H' => ∃ hh out, σ = [some (.ref a), some (st h), some (st [c]), some (st hh), some (st out)] ∧ Ex H H' ∧ m = hh.length ∧ shiftM o (h ++ [c]) = ((shiftM o hh).1, out ++ (shiftM o hh).2) ∧ hh.length + out.length ≤ 3) (h ++ [c]).length
          ⟨h ++ [c], [], rfl, eH.trans e3, rfl, rfl, by simp; omega⟩ (fun m σ H' ⟨hh, out, hσ, e, hm, hsh, hz⟩ => ?_)
        subst hσ
        have hbb := ex_rd e ha
        refine ⟨(!decide (hh = []) && !(hh.isPrefixOf o)), et_and (et_test (ev_op (ev_var rfl) ev_c (rv_neS (a := hh) (b := [])))) fun _ => et_not (et_B (ev_starts (ev_ixT (i := 1) (ev_var rfl) ev_c hbb rfl) (ev_var rfl))), fun hb H1 e4 => ?_, fun hb H1 e4 => ?_⟩
        · rw [Bool.and_eq_true] at hb
          cases hh with
          | nil => simp at hb
          | cons d r =>
            have hp : ¬ ((d :: r).isPrefixOf o = true) := fun h1 => by
              rw [h1] at hb
              exact absurd hb.2 (by decide)
            refine ⟨fun σ2 H2 => ∃ m', m' < m ∧ ∃ hh out, σ2 = [some (.ref a), some (st h), some (st [c]), some (st hh), some (st out)] ∧ Ex H H2 ∧ m' = hh.length ∧ shiftM o (h ++ [c]) = ((shiftM o hh).1, out ++ (shiftM o hh).2) ∧ hh.length + out.length ≤ 3, fun σ2 H2 h => h, ?_⟩
            have hz' : r.length + 1 + out.length ≤ 3 := hz
            refine q_augS (a := out) (b := [d]) rfl (ev_op (ev_var rfl) ev_c (rv_ixS' (x := d :: r) (i := 0) (by simp only [List.length_cons]; omega) rfl)) (small (by simp only [List.length_cons, List.length_nil]; omega)) fun H2 e5 => ?_
            refine s_asg (ev_slS (x := d :: r) (y := r) (lo := some ((1 : Nat) : Int)) (hi := none) (ev_var rfl) (eo_some ev_c) eo_none (small (by simp only [List.length_cons]; omega)) cutS_from) fun H3 e6 => ?_
            refine ⟨r.length, by rw [hm]; simp, r, out ++ [d], rfl, ((e.trans e4).trans e5).trans e6, rfl, ?_, by simp only [List.length_append, List.length_cons, List.length_nil]; omega⟩
            rw [hsh]
            have es : shiftM o (d :: r) = ((shiftM o r).1, d :: (shiftM o r).2) := by
              conv => lhs; unfold shiftM
              rw [if_neg hp]
            rw [es, List.append_assoc]
            rfl
        · have es : shiftM o hh = (hh, []) := by
            cases hh with
            | nil => rfl
            | cons d r =>
              have hp : (d :: r).isPrefixOf o = true := by
                cases h1 : (d :: r).isPrefixOf o with
                | true => rfl
                | false => rw [h1] at hb; simp at hb
              unfold shiftM
              rw [if_pos hp]
          rw [es] at hsh
          rw [hsh, List.append_nil] at q
          exact s_retU (eu_tup (ea_cons (ev_var rfl) (ea_cons (ev_var rfl) ea_nil)) len2) fun p H2 hp e5 h1 => q p H2 (fresh_back (e.trans e4) hp) ((e.trans e4).trans e5) h1
  | first n => cases s with
    | txt h => exact hst.elim
    | num k =>
      obtain ⟨a, rfl, ha⟩ := hv
      refine q_when (b := false) (et_test (ev_op (ev_ixT (i := 0) (ev_var rfl) ev_c ha rfl) ev_c (rv_eq rfl))) (fun h => nomatch h) fun _ G0 e0 => ?_
      have ha0 := ex_rd e0 ha
      refine q_when (b := true) (et_test (ev_op (ev_ixT (i := 0) (ev_var rfl) ev_c ha0 rfl) ev_c (rv_eq rfl))) (fun _ G1 e1 => ?_) fun h => nomatch h
      have ha1 := ex_rd e1 ha0
      have ee := (e0.trans e1)
      have hb := ha1
      refine s_retU (eu_if (b := decide ((0 : Int) < (k : Int))) (xs := [MsV (fedM (.first n) (.num k) c).1, st (fedM (.first n) (.num k) c).2]) (et_test (ev_op (ev_var rfl) ev_c rv_I0)) (fun hb => ?_) (fun hb => ?_)) fun p H1 hp e h1 => q p H1 (fresh_back ee hp) (ee.trans e) h1
      · have hk : 0 < k := by have := of_decide_eq_true hb; omega
        have ef : fedM (.first n) (.num k) c = (.num (k - 1), []) := if_pos hk
        rw [ef]
        have em : (.int ((k : Int) - 1) : V) = MsV (.num (k - 1)) := by
          show V.int _ = V.int _
          congr 1
          omega
        rw [← em]
        exact eu_tup (ea_cons (ev_op (ev_var rfl) ev_c rv_I0) (ea_cons ev_c ea_nil)) len2
      · have hk : ¬ 0 < k := by have := of_decide_eq_false hb; omega
        have ef : fedM (.first n) (.num k) c = (.num 0, [c]) := if_neg hk
        rw [ef]
        exact eu_tup (ea_cons ev_c (ea_cons (ev_var rfl) ea_nil)) len2
  | last n => cases s with
    | num k => exact hst.elim
    | txt h =>
      obtain ⟨a, rfl, ha⟩ := hv
      refine q_when (b := false) (et_test (ev_op (ev_ixT (i := 0) (ev_var rfl) ev_c ha rfl) ev_c (rv_eq rfl))) (fun h => nomatch h) fun _ G0 e0 => ?_
      have ha0 := ex_rd e0 ha
      refine q_when (b := false) (et_test (ev_op (ev_ixT (i := 0) (ev_var rfl) ev_c ha0 rfl) ev_c (rv_eq rfl))) (fun h => nomatch h) fun _ G1 e1 => ?_
      have ha1 := ex_rd e1 ha0
      refine q_when (b := true) (et_test (ev_op (ev_ixT (i := 0) (ev_var rfl) ev_c ha1 rfl) ev_c (rv_eq rfl))) (fun _ G2 e2 => ?_) fun h => nomatch h
      have ha2 := ex_rd e2 ha1
      have ee := ((e0.trans e1).trans e2)
      have hb := ha2
      have hn : n ≤ 1 := ho
      have hlh : h.length ≤ n := hst
      have hl1 : (h ++ [c]).length ≤ 2 := by simp; omega
      refine q_asg (ev_op (ev_var rfl) (ev_var rfl) (rv_addS (a := h) (b := [c]) (small (by simp; omega)))) fun G3 e3 => ?_
      have hb1 := ex_rd e3 hb
      refine s_retU (eu_if (b := decide ((n : Int) < ((h ++ [c]).length : Int))) (xs := [MsV (fedM (.last n) (.txt h) c).1, st (fedM (.last n) (.txt h) c).2]) (et_test (ev_op (ev_lenS (ev_var rfl) (small (by omega))) (ev_ixT (i := 1) (ev_var rfl) ev_c hb1 rfl) rv_I0)) (fun hq => ?_) (fun hq => ?_)) fun p H1 hp e h1 => q p H1 (fresh_back (ee.trans e3) hp) ((ee.trans e3).trans e) h1
      · have hk : n < (h ++ [c]).length := by have := of_decide_eq_true hq; omega
        have ef : fedM (.last n) (.txt h) c = (.txt (h ++ [c]).tail, (h ++ [c]).take 1) := if_pos hk
        rw [ef]
        have e0 : (h ++ [c]).take 1 = [(h ++ [c]).headD 0] := by cases h <;> rfl
        have e1 : (h ++ [c])[0]? = some ((h ++ [c]).headD 0) := by cases h <;> rfl
        rw [e0]
        refine eu_tup (ea_cons (ev_slS (x := h ++ [c]) (y := (h ++ [c]).tail) (lo := some ((1 : Nat) : Int)) (hi := none) (ev_var rfl) (eo_some ev_c) eo_none (small (by omega)) ?_) (ea_cons (ev_op (ev_var rfl) ev_c (rv_ixS' (i := 0) (by omega) e1)) ea_nil)) len2
        rw [cutS_from, List.drop_one]
      · have hk : ¬ n < (h ++ [c]).length := by have := of_decide_eq_false hq; omega
        have ef : fedM (.last n) (.txt h) c = (.txt (h ++ [c]), []) := if_neg hk
        rw [ef]
        exact eu_tup (ea_cons (ev_var rfl) (ea_cons ev_c ea_nil)) len2
  | front w =>
    obtain ⟨a, rfl, ha⟩ := hv
    refine q_when (b := false) (et_test (ev_op (ev_ixT (i := 0) (ev_var rfl) ev_c ha rfl) ev_c (rv_eq rfl))) (fun h => nomatch h) fun _ G0 e0 => ?_
    have ha0 := ex_rd e0 ha
    refine q_when (b := false) (et_test (ev_op (ev_ixT (i := 0) (ev_var rfl) ev_c ha0 rfl) ev_c (rv_eq rfl))) (fun h => nomatch h) fun _ G1 e1 => ?_
    have ha1 := ex_rd e1 ha0
    refine q_when (b := false) (et_test (ev_op (ev_ixT (i := 0) (ev_var rfl) ev_c ha1 rfl) ev_c (rv_eq rfl))) (fun h => nomatch h) fun _ G2 e2 => ?_
    have ha2 := ex_rd e2 ha1
    have ee := ((e0.trans e1).trans e2)
    have hb := ha2
    have ef : fedM (.front w) s c = (s, [c]) := by cases s <;> rfl
    rw [ef] at q
    exact s_retU (eu_tup (ea_cons (ev_var rfl) (ea_cons (ev_if (b := false) (et_test (ev_op (ev_ixT (i := 0) (ev_var rfl) ev_c hb rfl) ev_c (rv_eq rfl))) (fun h => nomatch h) fun _ => ev_var rfl) ea_nil)) len2) fun p H1 hp e h1 => q p H1 (fresh_back ee hp) (ee.trans e) h1
  | back w =>
    obtain ⟨a, rfl, ha⟩ := hv
    refine q_when (b := false) (et_test (ev_op (ev_ixT (i := 0) (ev_var rfl) ev_c ha rfl) ev_c (rv_eq rfl))) (fun h => nomatch h) fun _ G0 e0 => ?_
    have ha0 := ex_rd e0 ha
    refine q_when (b := false) (et_test (ev_op (ev_ixT (i := 0) (ev_var rfl) ev_c ha0 rfl) ev_c (rv_eq rfl))) (fun h => nomatch h) fun _ G1 e1 => ?_
    have ha1 := ex_rd e1 ha0
    refine q_when (b := false) (et_test (ev_op (ev_ixT (i := 0) (ev_var rfl) ev_c ha1 rfl) ev_c (rv_eq rfl))) (fun h => nomatch h) fun _ G2 e2 => ?_
    have ha2 := ex_rd e2 ha1
    have ee := ((e0.trans e1).trans e2)
    have hb := ha2
    have ef : fedM (.back w) s c = (s, [c]) := by cases s <;> rfl
    rw [ef] at q
    exact s_retU (eu_tup (ea_cons (ev_var rfl) (ea_cons (ev_if (b := false) (et_test (ev_op (ev_ixT (i := 0) (ev_var rfl) ev_c hb rfl) ev_c (rv_eq rfl))) (fun h => nomatch h) fun _ => ev_var rfl) ea_nil)) len2) fun p H1 hp e h1 => q p H1 (fresh_back ee hp) (ee.trans e) h1
  | letters ps =>
    have hv0 := hv
    obtain ⟨a, l, xs, rfl, ha, hl2, hp2⟩ := hv
    refine q_when (b := false) (et_test (ev_op (ev_ixT (i := 0) (ev_var rfl) ev_c ha rfl) ev_c (rv_eq rfl))) (fun h => nomatch h) fun _ G0 e0 => ?_
    have ha0 := ex_rd e0 ha
    refine q_when (b := false) (et_test (ev_op (ev_ixT (i := 0) (ev_var rfl) ev_c ha0 rfl) ev_c (rv_eq rfl))) (fun h => nomatch h) fun _ G1 e1 => ?_
    have ha1 := ex_rd e1 ha0
    refine q_when (b := false) (et_test (ev_op (ev_ixT (i := 0) (ev_var rfl) ev_c ha1 rfl) ev_c (rv_eq rfl))) (fun h => nomatch h) fun _ G2 e2 => ?_
    have ha2 := ex_rd e2 ha1
    have ee := ((e0.trans e1).trans e2)
    have hb := ha2
    have ef : fedM (.letters ps) s c = (s, [subst1 ps c]) := by cases s <;> rfl
    rw [ef] at q
    exact s_retU (eu_tup (ea_cons (ev_var rfl) (ea_cons (ev_if (b := true) (et_test (ev_op (ev_ixT (i := 0) (ev_var rfl) ev_c hb rfl) ev_c (rv_eq rfl))) (fun _ => ev_call (ea_cons (ev_var rfl) (ea_cons (ev_var rfl) ea_nil)) (spv_done (x := [c]) (hv0.mono ee) trivial ho hs (AllSg.one hc) (by simp))) fun h => nomatch h) ea_nil)) len2) fun p H1 hp e h1 => q p H1 (fresh_back ee hp) (ee.trans e) h1
theorem spu_fed {v : V} {o : Od} {s : Ms} {c : Nat} {H : Hp} (hv : OdV H v o) (ho : OkO o) (hst : OkS o s) (hs : AllSg (namedM o)) (hc : c ∈ SG) : SpU spFed [v, MsV s, st [c]] H [MsV (fedM o s c).1, st (fedM o s c).2] :=
  spu_of fun H1 e Q E q => ⟨v, o, s, c, rfl, hv.mono e, ho, hst, hs, hc, q⟩
end
end Ev
set_option Elab.async false
set_option linter.all false
set_option maxRecDepth 100000
set_option maxHeartbeats 2000000
namespace Ev
open PySem PySem.Spec PyProof.Rows L2 Evl
/-! ### zip of a list and a tuple in a for, over the library's zip of any two iterators -/
/-- turn i: item i of the list at a beside item i of the tuple at b, in a new pair -/
def ItzM (K : PySem.W.Frag) (a b : Addr) : It where
  go := fun i H => ∃ xs ys x y, SqL K H a xs ∧ SqT K H b ys ∧ xs[i]? = some x ∧ ys[i]? = some y
  yld := fun i H v H' => ∃ T x y, v = .ref T ∧ H T = none ∧ H' = upd H T (.tup [x, y]) ∧ (∀ xs, SqL K H a xs → xs[i]? = some x) ∧ ∀ ys, SqT K H b ys → ys[i]? = some y
  stop := fun i H => ∃ xs ys, SqL K H a xs ∧ SqT K H b ys ∧ i = min xs.length ys.length
/-- the zip's five objects after i turns -/
def ZipAt (z TI TO i1 i2 a b : Addr) (i : Nat) (h : Heap) : Prop := IsZip h z TI TO .none ∧ IsTupOf2 h TI (.ref i1) (.ref i2) ∧ (∃ x y, IsTupOf2 h TO x y) ∧ h.IsListIter i1 a i ∧ h.IsTupleIter i2 b i
theorem sep_of {z TI TO i1 i2 a b : Addr} (D : ZipApart z TI TO i1 i2 a b) (ha : a ≠ i2) (hb : b ≠ i1) : ZipSep2 z TI TO i1 i2 [i1, a] [i2, b] := by
  have n : ∀ {x y w : Addr}, x ≠ y → x ≠ w → x ∉ [y, w] := fun h k m => by
    rcases List.mem_cons.mp m with m | m
    · exact h m
    · exact k (List.mem_singleton.mp m)
  exact { TIz := D.TIz, TOz := D.TOz, TITO := D.TITO, TIi1 := D.TIi1, TIi2 := D.TIi2, mem1 := List.mem_cons_self, mem2 := List.mem_cons_self, zf1 := n D.i1z.symm D.l1z.symm, zf2 := n D.i2z.symm D.l2z.symm, Tf1 := n D.TOi1 D.l1TO.symm, Tf2 := n D.TOi2 D.l2TO.symm, sep1_2 := n D.i12 hb.symm, sep2_1 := n D.i12.symm ha.symm }
theorem zipAt_lt {z TI TO i1 i2 a b : Addr} {i : Nat} {h : Heap} (st : ZipAt z TI TO i1 i2 a b i h) {c : Addr} (hc : c ∈ [z, TI, TO, i1, i2]) : ∃ o, h.get? c = some o ∧ ∀ v, o.data ≠ .cell v := by
  obtain ⟨hz, hTI, ⟨x, y, hTO⟩, ⟨o1, e1, _, d1⟩, ⟨o2, e2, _, d2⟩⟩ := st
  simp only [List.mem_cons, List.not_mem_nil, or_false] at hc
  rcases hc with rfl | rfl | rfl | rfl | rfl
  · exact ⟨_, hz, fun _ k => nomatch k⟩
  · exact ⟨_, hTI, fun _ k => nomatch k⟩
  · exact ⟨_, hTO, fun _ k => nomatch k⟩
  · exact ⟨o1, e1, fun _ k => by rw [d1] at k; cases k⟩
  · exact ⟨o2, e2, fun _ k => by rw [d2] at k; cases k⟩
/-- what is none of the five stays -/
theorem out5 {z TI TO i1 i2 c : Addr} (h : c ∉ [z, TI, TO, i1, i2]) : c ≠ z ∧ c ≠ TO ∧ c ≠ i1 ∧ c ≠ i2 := by
  simp only [List.mem_cons, List.not_mem_nil, or_false, not_or] at h
  exact ⟨h.1, h.2.2.1, h.2.2.2.1, h.2.2.2.2⟩
theorem turn_zipM {P : Program} {w : World} {K : PySem.W.Frag} {elts : List Expr} {kk : Nat} {tpos : Pos} {a b z TI TO i1 i2 : Addr} (D : ZipApart z TI TO i1 i2 a b) :
    Turn P w K (.Tuple elts kk tpos) (ItzM K a b) [z, TI, TO, i1, i2] z (ZipAt z TI TO i1 i2 a b) where
  mem := List.mem_cons_self
  obj := fun _ _ st _ hc => zipAt_lt st hc
  keep := fun _ _ _ ⟨hz, hTI, ⟨x, y, hTO⟩, h1, h2⟩ k => ⟨k z (by simp) _ hz, k TI (by simp) _ hTI, ⟨x, y, k TO (by simp) _ hTO⟩, h1.at (k i1 (by simp)), h2.at (k i2 (by simp))⟩
  item := by
    rintro X rfl rfl rfl hc i pins s σ H E I hf st ⟨xs, ys, x, y, qx, qy, hx, hy⟩
    obtain ⟨its, rv, pl, _⟩ := I.list qx
    obtain ⟨its2, rv2, pt, _⟩ := I.tuple qy
    have hit : ∀ {c}, c ∈ [z, TI, TO, i1, i2] → c < s.heap.objs.size := fun hc => let ⟨_, ho, _⟩ := zipAt_lt st hc; Heap.lt_size ho
    obtain ⟨hz, hTI, ⟨x0, y0, hTO⟩, h1, h2⟩ := st
    obtain ⟨u, hu, ru⟩ := rv.get hx
    obtain ⟨v, hv, rw'⟩ := rv2.get hy
    have l1 : i < its.toArray.size := by rw [List.size_toArray]; exact (List.getElem?_eq_some_iff.mp hu).1
    have l2 : i < its2.toArray.size := by rw [List.size_toArray]; exact (List.getElem?_eq_some_iff.mp hv).1
    have B1 := Draws.list (prog := X.prog) (w := X.w) (A := X.A.in1) (I.ok.hd hc) i1 a D.l1i1 its.toArray
    have B2 := Draws.tuple (prog := X.prog) (w := X.w) (A := X.A.in1) (I.ok.hd hc) i2 b D.l2i2 its2.toArray
    refine wpAny_pyNext_zipD2_item (sep_of D D.l1i2 D.l2i1) B1 B2 hz hTI hTO ⟨h1, pl.isList⟩ ⟨h2, pt⟩ l1 l2 fun u' v' h' tk e1 e2 z' TO' d1 d2 hT _ hk => ?_
    obtain rfl : u = u' := Option.some.inj (hu.symm.trans (by simpa using e1))
    obtain rfl : v = v' := Option.some.inj (hv.symm.trans (by simpa using e2))
    refine ⟨_, rfl, wpAny_letOwnedTupleGo_zip (s := { s with heap := h', toks := tk }) z' fun h'' z'' sb => ?_⟩
    have nz : s.heap.objs.size ≠ z := Nat.ne_of_gt (hit List.mem_cons_self)
    have keep : ∀ {c o}, c ∉ [z, TI, TO, i1, i2] → s.heap.get? c = some o → h''.get? c = some o := fun hc ho => by
      obtain ⟨k1, k2, k3, k4⟩ := out5 hc
      exact (sb.2 _ k1).trans (hk _ _ k1 k2 k3 k4 ho)
    have I1 : Inv X pins σ (upd H s.heap.objs.size (.tup [x, y])) { s with heap := h'', toks := tk } :=
      I.turnedNew (ch := [z, TI, TO, i1, i2]) (fun c o hc ho => keep hc ho) hf (Nat.le_refl _) ⟨Nat.le_of_ble_eq_true rfl, [u, v], .cons ru (.cons rw' .nil), _, (sb.2 _ nz).trans hT, rfl, _, rfl⟩
    refine ⟨.ref s.heap.objs.size, _, I1, rfl, ⟨_, x, y, rfl, I.hok.fresh (Nat.le_refl _), rfl, fun l hl => by rw [I.list_inj hl qx]; exact hx, fun l hl => by rw [I.tuple_inj hl qy]; exact hy⟩, ⟨z'', ?_, ⟨u, v, ?_⟩, ?_, ?_⟩, fun c hcm => ?_⟩
    · exact (sb.2 _ D.TIz).trans (hk _ _ D.TIz D.TITO D.TIi1 D.TIi2 hTI)
    · exact (sb.2 _ D.TOz).trans TO'
    · exact d1.1.at fun o ho => (sb.2 _ D.i1z).trans ho
    · exact d2.1.at fun o ho => (sb.2 _ D.i2z).trans ho
    · rw [upd_ne (Nat.ne_of_lt (hit hcm))]
      exact (hf c hcm).1
  done := by
    rintro X rfl rfl rfl hc i pins s σ H E I hf st ⟨xs, ys, qx, qy, hend⟩
    obtain ⟨its, rv, pl, _⟩ := I.list qx
    obtain ⟨its2, rv2, pt, _⟩ := I.tuple qy
    obtain ⟨hz, hTI, ⟨x0, y0, hTO⟩, h1, h2⟩ := st
    have l1 : its.toArray.size = xs.length := by rw [List.size_toArray, rv.length]
    have l2 : its2.toArray.size = ys.length := by rw [List.size_toArray, rv2.length]
    have B1 := Draws.list (prog := X.prog) (w := X.w) (A := X.A.in1) (I.ok.hd hc) i1 a D.l1i1 its.toArray
    have B2 := Draws.tuple (prog := X.prog) (w := X.w) (A := X.A.in1) (I.ok.hd hc) i2 b D.l2i2 its2.toArray
    refine wpAny_pyNext_zipD2_end (sep_of D D.l1i2 D.l2i1) B1 B2 hz hTI hTO ⟨h1, pl.isList⟩ ⟨h2, pt⟩ (by omega) (by omega) (by omega) fun h' tk hk => ⟨rfl, ?_⟩
    exact I.turnedL (ch := [z, TI, TO, i1, i2]) (fun c o hc ho => let ⟨k1, k2, k3, k4⟩ := out5 hc; hk c o k1 k2 k3 k4 ho) hf
  self := fun _ _ _ _ _ st h => wpAny_pyIter_zip st.1 h
/-- zip(xs, ys), xs a list, ys a tuple -/
def iZipM (K : PySem.W.Frag) (ta : TA) : TI := fun σ H R => ta σ H fun vs H1 => ∃ a b xs ys, vs = [.ref a, .ref b] ∧ SqL K H1 a xs ∧ SqT K H1 b ys ∧ R (ItzM K a b) H1
theorem pi_zipM {X : Cx} {e e2 : Expr} {ta : TA} {p pos tpos : Pos} {elts : List Expr} {kk : Nat} (hg : Gl X "zip") (hm : X.mg "zip" = none) (ha : PA X [e, e2] ta)
    (hs : starEach [e, e2] X.env = (false, eval e X.env) :: starEach [e2] X.env := by rfl) (hpl : (backTo pos (starEach [e2] X.env)).any (·.1) = false := by rfl) : PI X (.Tuple elts kk tpos) (.Call (.Name "zip" p) [e, e2] [] pos) (iZipM X.K ta) := by
  refine ⟨fun pins s σ H R I h => Call_ (ld_blt I hg hm PyProof.Rows.boot_zip (PyProof.Rows.callWith_type1 (thn (ha.run pos pins s σ H _ I h) fun us s1 ⟨vs, H1, I1, r1, a, b, xs, ys, ex, qx, qy, q⟩ => ?_) hs hpl))⟩
  subst ex
  obtain ⟨u1, u2, rfl, r, r'⟩ := r1.two
  obtain rfl : u1 = Value.ref a := r
  obtain rfl : u2 = Value.ref b := r'
  obtain ⟨its, _, pl, _⟩ := I1.list qx
  obtain ⟨its2, _, pt, _⟩ := I1.tuple qy
  have la : a < s1.heap.objs.size := pl.lt
  have lb : b < s1.heap.objs.size := pt.lt
  refine zip_begins2 (begins_list a its.toArray) (begins_tuple b its2.toArray) pl.isList pt fun h' hz hTI hTO g1 g2 _ hk => wpAny_pyIter_zip hz ⟨s1.heap.objs.size + 4, [s1.heap.objs.size + 4, s1.heap.objs.size + 2, s1.heap.objs.size + 3, s1.heap.objs.size, s1.heap.objs.size + 1], _, _, H1, rfl, I1.kept (t' := s1.toks) hk,
    turn_zipM (PyProof.Rows.zipApart_new la lb), ⟨hz, hTI, ⟨_, _, hTO⟩, ⟨_, g1, rfl, rfl⟩, ⟨_, g2, rfl, rfl⟩⟩, fun c hc => ?_, q⟩
  have hle : s1.heap.objs.size ≤ c := by
    simp only [List.mem_cons, List.not_mem_nil, or_false] at hc
    rcases hc with e | e | e | e | e <;> (rw [e]; omega)
  exact I1.fpOk hle (I1.hok.fresh hle)
theorem walk_zipM {K : PySem.W.Frag} {a b : Addr} {xs ys : List V} {n : Nat} (hn : n = min xs.length ys.length) : Walk (ItzM K a b) n (fun H => SqL K H a xs ∧ SqT K H b ys) (YPair (fun i => xs[i]?) (fun i => ys[i]?)) where
  goes := fun i _ hi q => ⟨xs, ys, xs[i]'(by omega), ys[i]'(by omega), q.1, q.2, List.getElem?_eq_getElem _, List.getElem?_eq_getElem _⟩
  stops := fun _ q => ⟨xs, ys, q.1, q.2, hn⟩
  yields := fun _ _ _ _ _ q ⟨T, x, z, h1, h2, h3, h4, h5⟩ => ⟨T, x, z, h1, h2, h3, h4 xs q.1, h5 ys q.2⟩
end Ev
set_option Elab.async false
set_option linter.all false
set_option maxRecDepth 100000
set_option maxHeartbeats 4000000
namespace Ev
open PySem PySem.Spec PyProof.Rows L2 Evl
section
variable {P : Program} {w : World} {K : PySem.W.Frag} {mg : Str → Option Value} {base : Heap}
section
variable {σ : L2.St} {H : Hp} {ta tb te : TE} {t : TT} {xs : List V} {D : Ends} {tu tz : TS}
abbrev g2 (K : PySem.W.Frag) (i j : Nat) : TG := gTup K 2 (gCons (gName i) (gCons (gName j) gNil))
theorem g2_of {i j : Nat} {p : Addr} {a b : V} {Q : L2.St → Hp → Prop} (h : H p = some (.tup [a, b])) (q : Q ((σ.set i (some a)).set j (some b)) H) : g2 K i j (.ref p) σ H Q :=
  ⟨p, [a, b], rfl, st_of h, rfl, a, [b], rfl, b, [], rfl, rfl, q⟩
theorem s_asg2 {i j : Nat} {a b : V} (h : EvU te σ H [a, b]) (k : ∀ H1, Ex H H1 → D.nx ((σ.set i (some a)).set j (some b)) H1) : tAsg te (g2 K i j) D σ H :=
  h H (Ex.refl H) _ fun p H1 hp e h1 => g2_of h1 (k H1 e)
theorem q_asg2 {i j : Nat} {a b : V} (h : EvU te σ H [a, b]) (k : ∀ H1, Ex H H1 → tz D ((σ.set i (some a)).set j (some b)) H1) : tSeq (tAsg te (g2 K i j)) tz D σ H := s_asg2 (D := { D with nx := tz D }) h k
/-- a new pair of a row of states and a text -/
def EvN (te : TE) (σ : L2.St) (H : Hp) (ss : List V) (y : Tx) : Prop := ∀ H1, Ex H H1 → ∀ Q : VK, (∀ p q H2, Ex H1 H2 → H2 p = some (.tup [.ref q, st y]) → H2 q = some (.tup ss) → Q (.ref p) H2) → te σ H1 Q
def RetN (ss : List V) (y : Tx) (H : Hp) (Q : VK) : Prop := ∀ p q H2, Ex H H2 → H2 p = some (.tup [.ref q, st y]) → H2 q = some (.tup ss) → Q (.ref p) H2
def SpN (sp : Sp) (vs : List V) (H : Hp) (ss : List V) (y : Tx) : Prop := ∀ H1, Ex H H1 → ∀ Q : VK, RetN ss y H1 Q → ∀ E : XK, sp vs H1 Q E
theorem en_call {sp : Sp} {dvs vs ss : List V} {y : Tx} {E : XK} {ta : TA} (h : EvA ta σ H vs) (hs : SpN sp (vs ++ dvs) H ss y) : EvN (tCall sp dvs E ta) σ H ss y := fun H1 e Q q =>
  h H1 e _ fun H2 e2 => hs H2 (e.trans e2) Q (fun p p2 H3 e3 h3 h4 => q p p2 H3 (e2.trans e3) h3 h4) E
theorem s_asgN {i j : Nat} {ss : List V} {y : Tx} (h : EvN te σ H ss y) (k : ∀ q H1, Ex H H1 → H1 q = some (.tup ss) → D.nx ((σ.set i (some (.ref q))).set j (some (st y))) H1) : tAsg te (g2 K i j) D σ H :=
  h H (Ex.refl H) _ fun p q H1 e h1 h2 => g2_of h1 (k q H1 e h2)
theorem q_asgN {i j : Nat} {ss : List V} {y : Tx} (h : EvN te σ H ss y) (k : ∀ q H1, Ex H H1 → H1 q = some (.tup ss) → tz D ((σ.set i (some (.ref q))).set j (some (st y))) H1) : tSeq (tAsg te (g2 K i j)) tz D σ H := s_asgN (D := { D with nx := tz D }) h k
/-- a loop over a text -/
theorem q_forS {x : Tx} {j : Nat} (h : Ev te σ H (st x)) (Pv : Nat → L2.St → Hp → Prop) (h0 : ∀ H1, Ex H H1 → Pv 0 σ H1)
    (hs : ∀ i c σ' H', x[i]? = some c → Pv i σ' H' → tu { D with nx := Pv (i + 1), ct := Pv (i + 1), bk := tz D } (σ'.set j (some (st [c]))) H') (hd : ∀ σ' H', Pv x.length σ' H' → tz D σ' H') : tSeq (tFor (iStr te) (gName j) tu) tz D σ H :=
  h H (Ex.refl H) _ fun H1 e => ⟨S x, rfl, for_it (D := { D with nx := tz D }) (walk_str (z := S x)) Pv (h0 H1 e) (fun _ _ _ _ _ => trivial) (fun i y σ' H2 H' hi p hy => by
    obtain ⟨rfl, c, hc, rfl⟩ := hy
    exact hs i c σ' _ (by simpa using hc) p) (fun σ' H' p => hd σ' H' (by have : (S x).cps.size = x.length := by simp
                                                                          rw [this] at p; exact p))⟩
/-- a loop over zip of a list and a tuple of one length -/
theorem q_forZ {a b : Addr} {xs ys : List V} {ta : TA} {i j : Nat} (h : EvA ta σ H [.ref a, .ref b]) (ha : Rd H a (.lst xs)) (hb : Rd H b (.tup ys)) (hl : xs.length = ys.length) (Pv : Nat → L2.St → Hp → Prop) (h0 : ∀ H1, Ex H H1 → Pv 0 σ H1) (hG : ∀ k σ' H', Pv k σ' H' → Rd H' a (.lst xs) ∧ Rd H' b (.tup ys))
    (hs : ∀ k x y σ' H', xs[k]? = some x → ys[k]? = some y → Pv k σ' H' → ∀ H1, Ex H' H1 → tu { D with nx := Pv (k + 1), ct := Pv (k + 1), bk := tz D } ((σ'.set i (some x)).set j (some y)) H1) (hd : ∀ σ' H', Pv xs.length σ' H' → tz D σ' H') : tSeq (tFor (iZipM K ta) (g2 K i j) tu) tz D σ H :=
  h H (Ex.refl H) _ fun H1 e => ⟨a, b, xs, ys, rfl, rd_l (ex_rd e ha), rd_t (ex_rd e hb), for_it (D := { D with nx := tz D }) (walk_zipM (xs := xs) (ys := ys) (n := xs.length) (by omega)) Pv (h0 H1 e) (fun k σ' H' _ p => ⟨rd_l (hG k σ' H' p).1, rd_t (hG k σ' H' p).2⟩)
    (fun k v σ' H2 H' hk p hy => by
      obtain ⟨T, x, y, rfl, hT, rfl, hx, hy⟩ := hy
      exact g2_of upd_same (hs k x y σ' H2 hx hy p _ (Ex.new hT))) hd⟩
end
/-! ### led -/
theorem sc_led : FnScope ["order", "state", "signs", "out", "sign", "more"] ["order", "state", "signs"] (defScope (top 18)) := ⟨rfl, rfl, rfl, by decide +kernel, rfl, by decide +kernel, by decide +kernel⟩
def spLed : Sp := fun vs H Q _ => ∃ (v : V) (o : Od) (s : Ms) (u : Tx), vs = [v, MsV s, st u] ∧ OdV H v o ∧ OkO o ∧ OkS o s ∧ AllSg (namedM o) ∧ AllSg u ∧ u.length ≤ 10000 ∧ RetU [MsV (ledM o s u).1, st (ledM o s u).2] H Q
theorem led_take (o : Od) (s : Ms) (u : Tx) (i c : Nat) (h : u[i]? = some c) : ledM o s (u.take (i + 1)) = ((fedM o (ledM o s (u.take i)).1 c).1, (ledM o s (u.take i)).2 ++ (fedM o (ledM o s (u.take i)).1 c).2) := by
  rw [List.take_add_one, h, Option.toList_some, ledM_append]
  show (((fedM o (ledM o s (u.take i)).1 c).1, (ledM o s (u.take i)).2 ++ ((fedM o (ledM o s (u.take i)).1 c).2 ++ [])) : Ms × Tx) = _
  rw [List.append_nil]
theorem ok_led (F : At K mg 18 "led") (DF : Df P w K mg base 2 "fed" ["order", "state", "sign"] spFed) : Df P w K mg base 3 "led" ["order", "state", "signs"] spLed := by
  refine Df.made (N := ["order", "state", "signs", "out", "sign", "more"]) F sc_led (fun _ _ _ _ _ _ us hl => match us, hl with | [_, _, _], _ => rfl) (fun vs H Q E h => ?_) (fun f cdv A outer s H vs Q E hr h => ?_)
  · obtain ⟨v, o, s, c, rfl, _⟩ := h; rfl
  refine ⟨_, pss_cons (ps_set (i := 3) sc_led.nd rfl (.inl rfl) pe_str)
    (pss_cons (ps_for PassesOwn.never rfl (pi_str (pv 2)) (pg_name (i := 4) sc_led.nd rfl (.inl rfl))
      (pss_cons (ps_asg (g := g2 K 1 5) (pe_df DF hr (by decide) (by rfl) (pa_cons (pv 0) (pa_cons (pv 1) (pa_cons (pv 4) pa_nil)))) (pg_tup rfl (pgs_cons (pg_name (i := 1) sc_led.nd rfl (.inl rfl)) (pgs_cons (pg_name (i := 5) sc_led.nd rfl (.inl rfl)) pgs_nil))))
      (pss_one (ps_aug (i := 3) sc_led.nd rfl (.inl rfl) (pv 5) ip_addS))))
    (pss_one (ps_ret (pe_tup (pa_cons (pv 1) (pa_cons (pv 3) pa_nil)))))), ?_⟩
  obtain ⟨v, o, s0, u, rfl, hv, ho, hst, hs, hu, hz, q⟩ := h
  refine q_asg ev_c fun H1 e1 => ?_
  refine q_forS (x := u) (ev_var rfl) (fun i σ H' => ∃ y y', σ = [some v, some (MsV (ledM o s0 (u.take i)).1), some (st u), some (st (ledM o s0 (u.take i)).2), y, y'] ∧ Ex H H') (fun H2 e2 => ⟨none, none, rfl, e1.trans e2⟩)
    (fun i c σ' H' hi ⟨y, y', hσ, e⟩ => ?_) (fun σ' H' ⟨y, y', hσ, e⟩ => ?_)
  · subst hσ
    have hst' := okS_led o ho (u.take i) s0 hst
    have hc : c ∈ SG := hu c (List.mem_of_getElem? hi)
    refine q_asg2 (eu_call (ea_cons (ev_var rfl) (ea_cons (ev_var rfl) (ea_cons (ev_var rfl) ea_nil))) (spu_fed (hv.mono e) ho hst' hs hc)) fun H2 e2 => ?_
    refine s_augS (a := (ledM o s0 (u.take i)).2) (b := (fedM o (ledM o s0 (u.take i)).1 c).2) rfl (ev_var rfl) ?_ fun H3 e3 => ⟨some (st [c]), some (st (fedM o (ledM o s0 (u.take i)).1 c).2), ?_, (e.trans e2).trans e3⟩
    · have h1 := led_size o ho (u.take i) s0 hst
      have h2 := fed_size o ho _ hst' c
      have h3 : (u.take i).length ≤ u.length := by rw [List.length_take]; omega
      exact Nat.le_trans (show _ ≤ 100000 by omega) (by decide)
    · rw [led_take o s0 u i c hi]
      rfl
  · subst hσ
    rw [List.take_length]
    exact s_retU (eu_tup (ea_cons (ev_var rfl) (ea_cons (ev_var rfl) ea_nil)) len2) fun p H2 hp e2 h2 => q p H2 (fresh_back e hp) (e.trans e2) h2
theorem spu_led {v : V} {o : Od} {s : Ms} {u : Tx} {H : Hp} (hv : OdV H v o) (ho : OkO o) (hst : OkS o s) (hs : AllSg (namedM o)) (hu : AllSg u) (hz : u.length ≤ 10000) : SpU spLed [v, MsV s, st u] H [MsV (ledM o s u).1, st (ledM o s u).2] :=
  spu_of fun H1 e Q E q => ⟨v, o, s, u, rfl, hv.mono e, ho, hst, hs, hu, hz, q⟩
end
end Ev
set_option Elab.async false
set_option linter.all false
set_option maxRecDepth 100000
set_option maxHeartbeats 4000000
namespace Ev
open PySem PySem.Spec PyProof.Rows L2 Evl
section
variable {P : Program} {w : World} {K : PySem.W.Frag} {mg : Str → Option Value} {base : Heap}
section
variable {σ : L2.St} {H : Hp} {ta tb te : TE} {t : TT} {xs : List V} {D : Ends} {tu tz : TS}
theorem eu_tupleL {a : Addr} {xs : List V} (h : Ev te σ H (.ref a)) (hx : Rd H a (.lst xs)) : EvU (tCB (fun vs H Q => ∃ p ys, vs = [V.ref p] ∧ ((SqL K H p ys ∧ ∀ l, H l = none → Q (.ref l) (upd H l (.tup ys))) ∨ (SqT K H p ys ∧ Q (.ref p) H))) (tCons te tNil)) σ H xs := fun H1 e Q q =>
  h H1 e _ fun H2 e2 => ⟨a, xs, rfl, .inl ⟨rd_l (ex_rd (e.trans e2) hx), fun l hl => q l _ (fresh_back e2 hl) (e2.trans (Ex.new hl)) upd_same⟩⟩
theorem en_tup {ss : List V} {y : Tx} (h : EvU ta σ H ss) (h2 : Ev tb σ H (st y)) : EvN (tTup (tCons ta (tCons tb tNil))) σ H ss y := fun H1 e Q q =>
  h H1 e _ fun p H2 _ e2 h1 => h2 H2 (e.trans e2) _ fun H3 e3 => ⟨Nat.le_of_ble_eq_true rfl, fun q2 hq => q q2 p _ ((e2.trans e3).trans (Ex.new hq)) upd_same (Ex.new hq _ _ (e3 _ _ h1))⟩
theorem s_retN {ss : List V} {y : Tx} (h : EvN te σ H ss y) (k : ∀ p q H1, Ex H H1 → H1 p = some (.tup [.ref q, st y]) → H1 q = some (.tup ss) → D.rt (.ref p) H1) : tRet te D σ H := h H (Ex.refl H) _ k
/-- what begun makes of an order ahead -/
theorem ev_initO {v : V} {o : Od} {i : Nat} (hσ : σ[i]? = some (some v)) (hv : OdV H v o) : Ev (tIf (tTest (tOp rEq (tOp (rIxT K) (tVar i) (tC (.int 0))) (tC (.str "first")))) (tOp (rIxT K) (tVar i) (tC (.int 1))) (tC (.str ""))) σ H (MsV (initM o)) := by
  cases o with
  | first n =>
    obtain ⟨a, rfl, ha⟩ := hv
    exact ev_if (b := true) (et_test (ev_op (ev_ixT (i := 0) (ev_var hσ) ev_c ha rfl) ev_c (rv_eq rfl))) (fun _ => ev_ixT (i := 1) (ev_var hσ) ev_c ha rfl) fun h => nomatch h
  | letters ps =>
    obtain ⟨a, l, vs, rfl, ha, _⟩ := hv
    exact ev_if (b := false) (et_test (ev_op (ev_ixT (i := 0) (ev_var hσ) ev_c ha rfl) ev_c (rv_eq rfl))) (fun h => nomatch h) fun _ => ev_c
  | _ =>
    all_goals
      obtain ⟨a, rfl, ha⟩ := hv
      exact ev_if (b := false) (et_test (ev_op (ev_ixT (i := 0) (ev_var hσ) ev_c ha rfl) ev_c (rv_eq rfl))) (fun h => nomatch h) fun _ => ev_c
theorem ev_frontO {v : V} {o : Od} {i j : Nat} {m : Tx} (hσ : σ[i]? = some (some v)) (hj : σ[j]? = some (some (st m))) (hv : OdV H v o) (ho : OkO o) (hm : m.length ≤ 90000) :
    Ev (tIf (tTest (tOp rEq (tOp (rIxT K) (tVar i) (tC (.int 0))) (tC (.str "front")))) (tOp (fun x y H Q => ∃ i j, x = V.str i ∧ y = V.str j ∧ i.length + j.length ≤ sizeLine ∧ Q (.str (i ++ j)) H) (tOp (rIxT K) (tVar i) (tC (.int 1))) (tVar j)) (tVar j)) σ H (st (frontM o ++ m)) := by
  cases o with
  | front w =>
    obtain ⟨a, rfl, ha⟩ := hv
    have hw : w.length ≤ 3 := ho
    exact ev_if (b := true) (et_test (ev_op (ev_ixT (i := 0) (ev_var hσ) ev_c ha rfl) ev_c (rv_eq rfl))) (fun _ => ev_op (ev_ixT (i := 1) (ev_var hσ) ev_c ha rfl) (ev_var hj) (rv_addS (a := w) (b := m) (Nat.le_trans (show _ ≤ 100000 by omega) (by decide)))) fun h => nomatch h
  | letters ps =>
    obtain ⟨a, l, vs, rfl, ha, _⟩ := hv
    exact ev_if (b := false) (et_test (ev_op (ev_ixT (i := 0) (ev_var hσ) ev_c ha rfl) ev_c (rv_eq rfl))) (fun h => nomatch h) fun _ => ev_var hj
  | _ =>
    all_goals
      obtain ⟨a, rfl, ha⟩ := hv
      exact ev_if (b := false) (et_test (ev_op (ev_ixT (i := 0) (ev_var hσ) ev_c ha rfl) ev_c (rv_eq rfl))) (fun h => nomatch h) fun _ => ev_var hj
end
theorem drop_at {α : Type} {l : List α} {i : Nat} {a : α} (h : l[i]? = some a) : l.drop i = a :: l.drop (i + 1) := by
  obtain ⟨h1, h2⟩ := List.getElem?_eq_some_iff.mp h
  rw [List.drop_eq_getElem_cons h1, h2]
theorem len_pow3 : ∀ os : List Od, os.length + 1 ≤ pow3 os
  | [] => Nat.le_refl _
  | o :: os => by
    have := len_pow3 os
    show os.length + 1 + 1 ≤ 3 * pow3 os
    omega
/-! ### begun -/
theorem sc_begun : FnScope ["orders", "states", "out", "order", "state", "more"] ["orders"] (defScope (top 19)) := ⟨rfl, rfl, rfl, by decide +kernel, rfl, by decide +kernel, by decide +kernel⟩
def spBegun : Sp := fun vs H Q _ => ∃ (v : V) (os : List Od), vs = [v] ∧ OdsV H v os ∧ OkOs os ∧ SgOs os ∧ pow3 os ≤ 3000 ∧ RetN ((begM os []).1.map MsV) (begM os []).2 H Q
theorem ok_begun (F : At K mg 19 "begun") (G : Gb mg) (DL : Df P w K mg base 3 "led" ["order", "state", "signs"] spLed) : Df P w K mg base 4 "begun" ["orders"] spBegun := by
  refine Df.made (N := ["orders", "states", "out", "order", "state", "more"]) F sc_begun (fun _ _ _ _ _ _ us hl => match us, hl with | [_], _ => rfl) (fun vs H Q E h => ?_) (fun f cdv A outer s H vs Q E hr h => ?_)
  · obtain ⟨v, os, rfl, _⟩ := h; rfl
  refine ⟨_, pss_cons (ps_set (i := 1) sc_begun.nd rfl (.inl rfl) (pe_lst pa_nil))
    (pss_cons (ps_set (i := 2) sc_begun.nd rfl (.inl rfl) pe_str)
    (pss_cons (ps_for PassesOwn.never rfl (pi_list (pv 0)) (pg_name (i := 3) sc_begun.nd rfl (.inl rfl))
      (pss_cons (ps_asg (g := g2 K 4 5) (pe_df DL hr (by decide) (by rfl) (pa_cons (pv 3) (pa_cons (pe_ifExp (pt_cmpR op_eq (pe_ix ix_tup (pv 3) pe_int (fun _ _ => rfl)) pe_str (nomark _)) (pe_ix ix_tup (pv 3) pe_int (fun _ _ => rfl)) pe_str) (pa_cons (pv 2) pa_nil))))
          (pg_tup rfl (pgs_cons (pg_name (i := 4) sc_begun.nd rfl (.inl rfl)) (pgs_cons (pg_name (i := 5) sc_begun.nd rfl (.inl rfl)) pgs_nil))))
      (pss_cons (ps_expr (pe_bm PySem.F.plainAttrs_list PySem.F.slot_list_append PySem.F.type_list_append mt_append (pv 1) (pa_cons (pv 4) pa_nil)))
      (pss_one (ps_set (i := 2) sc_begun.nd rfl (.inl rfl) (pe_ifExp (pt_cmpR op_eq (pe_ix ix_tup (pv 3) pe_int (fun _ _ => rfl)) pe_str (nomark _)) (pe_op op_add_str (pe_ix ix_tup (pv 3) pe_int (fun _ _ => rfl)) (pv 5)) (pv 5)))))))
    (pss_one (ps_ret (pe_tup (pa_cons (pe_callTy call_tuple_of (by rfl) G.tup bi_tup (pa_cons (pv 1) pa_nil)) (pa_cons (pv 2) pa_nil))))))), ?_⟩
  obtain ⟨v, os, rfl, hv, ho, hs, hz, q⟩ := h
  obtain ⟨a, xs, rfl, ha, hp⟩ := hv
  refine q_asgL (el_lst ea_nil (Nat.zero_le _)) fun l H1 nl e1 hl => ?_
  refine q_asg ev_c fun H2 e2 => ?_
  have e02 := e1.trans e2
  refine q_forLn (a := a) (xs := xs) (ev_var rfl) (rd_l (ex_rd e02 ha)) (fun i σ H' => ∃ y z u pre out, σ = [some (.ref a), some (.ref l), some (st out), y, z, u] ∧ Ex H H' ∧ H' l = some (.lst (pre.map MsV)) ∧ pre.length = i ∧
      begM os [] = (pre ++ (begM (os.drop i) out).1, (begM (os.drop i) out).2) ∧ AllSg out ∧ pow3 (os.drop i) * (out.length + 2) ≤ pow3 os * 2)
    (fun H3 e3 => ⟨none, none, none, [], [], rfl, e02.trans e3, e3 _ _ (e2 _ _ hl), rfl, rfl, AllSg.nil, Nat.le_refl _⟩) (fun i σ H' _ ⟨y, z, u, pre, out, _, e, _⟩ => rd_l (ex_rd e ha)) (fun i x σ H' hx ⟨y, z, u, pre, out, hσ, e, hl', hpl, hb, hso, hz'⟩ => ?_) (fun σ H' ⟨y, z, u, pre, out, hσ, e, hl', hpl, hb, hso, hz'⟩ => ?_)
  · subst hσ
    obtain ⟨o, hoi, hod⟩ := paired_get hp hx
    have hmem : o ∈ os := List.mem_of_getElem? hoi
    have hd := drop_at hoi
    have hoo := ho o hmem
    have hoz : out.length ≤ 6000 := by
      have h1 := pow3_pos (os.drop i)
      have h2 : 1 * (out.length + 2) ≤ pow3 (os.drop i) * (out.length + 2) := Nat.mul_le_mul_right _ h1
      omega
    have hsg := hs.of hmem
    refine q_asg2 (eu_call (ea_cons (ev_var rfl) (ea_cons (ev_initO rfl (hod.mono e)) (ea_cons (ev_var rfl) ea_nil))) (spu_led (u := out) (hod.mono e) hoo (okS_init o hoo) hsg hso (by omega))) fun H3 e3 => ?_
    have hls := led_size o hoo out _ (okS_init o hoo)
    have hfs := front_size o hoo
    refine q_app (l := l) (e3 _ _ hl') (ev_var rfl) (ev_var rfl) ?_ fun H4 e4 => ?_
    · have : i < xs.length := (List.getElem?_eq_some_iff.mp hx).1
      have h3 := len_pow3 os
      have := paired_len hp
      rw [List.length_map]
      omega
    have e04 := (e.trans e3).trans e4
    have e05 : Ex H (upd H4 l (.lst (pre.map MsV ++ [MsV (ledM o (initM o) out).1]))) := e04.mut nl
    refine s_asg (ev_frontO (m := (ledM o (initM o) out).2) rfl rfl (hod.mono e05) hoo (by omega)) fun H5 e5 => ⟨_, _, _, pre ++ [(ledM o (initM o) out).1], frontM o ++ (ledM o (initM o) out).2, rfl, e05.trans e5, e5 _ _ ?_, ?_, ?_, ?_, ?_⟩
    · rw [upd_same, List.map_append]; rfl
    · rw [List.length_append, hpl]; rfl
    · rw [hb, hd, List.append_assoc]; rfl
    · exact (sg_front o hsg).app (sg_led o hsg out _ (sg_init o) hso).2
    · refine Nat.le_trans ?_ hz'
      rw [hd]
      show _ ≤ 3 * pow3 (os.drop (i + 1)) * (out.length + 2)
      have h4 : pow3 (os.drop (i + 1)) * (3 * (out.length + 2)) = 3 * pow3 (os.drop (i + 1)) * (out.length + 2) := by rw [Nat.mul_comm 3 (pow3 _), Nat.mul_assoc]
      rw [← h4, List.length_append]
      exact Nat.mul_le_mul_left _ (by omega)
  · subst hσ
    have hn := paired_len hp
    rw [hn, List.drop_length] at hb
    have e1' : begM os [] = (pre, out) := by rw [hb]; show (pre ++ [], out) = _; rw [List.append_nil]
    rw [e1'] at q
    exact s_retN (en_tup (eu_tupleL (ev_var rfl) (.inl hl')) (ev_var rfl)) fun p p2 H3 e3 h1 h2 => q p p2 H3 (e.trans e3) h1 h2
theorem spn_begun {v : V} {os : List Od} {H : Hp} (hv : OdsV H v os) (ho : OkOs os) (hs : SgOs os) (hz : pow3 os ≤ 3000) : SpN spBegun [v] H ((begM os []).1.map MsV) (begM os []).2 := fun H1 e Q q E => ⟨v, os, rfl, hv.mono e, ho, hs, hz, q⟩
theorem okSs_len : ∀ {os : List Od} {ss : List Ms}, OkSs os ss → os.length = ss.length
  | [], [], _ => rfl
  | o :: os, s :: ss, h => by
    have := okSs_len h.2
    simp [this]
  | [], _ :: _, h => h.elim
  | _ :: _, [], h => h.elim
theorem okSs_drop : ∀ {os : List Od} {ss : List Ms} (i : Nat), OkSs os ss → OkSs (os.drop i) (ss.drop i)
  | os, ss, 0, h => h
  | [], [], i + 1, h => trivial
  | o :: os, s :: ss, i + 1, h => okSs_drop i h.2
  | [], _ :: _, _ + 1, h => h.elim
  | _ :: _, [], _ + 1, h => h.elim
theorem pow3_step {o : Od} {r : List Od} {x y : Tx} {n : Nat} (h : pow3 (o :: r) * (x.length + 2) ≤ n) (hy : y.length + 2 ≤ 3 * (x.length + 2)) : pow3 r * (y.length + 2) ≤ n := by
  refine Nat.le_trans ?_ h
  show _ ≤ 3 * pow3 r * (x.length + 2)
  have h4 : pow3 r * (3 * (x.length + 2)) = 3 * pow3 r * (x.length + 2) := by rw [Nat.mul_comm 3 (pow3 _), Nat.mul_assoc]
  rw [← h4]
  exact Nat.mul_le_mul_left _ hy
theorem pow3_le {r : List Od} {x : Tx} {n : Nat} (h : pow3 r * (x.length + 2) ≤ n) : x.length + 2 ≤ n := by
  have h2 : 1 * (x.length + 2) ≤ pow3 r * (x.length + 2) := Nat.mul_le_mul_right _ (pow3_pos r)
  omega
/-! ### pushed -/
theorem sc_pushed : FnScope ["orders", "states", "sign", "found", "out", "order", "state"] ["orders", "states", "sign"] (defScope (top 20)) := ⟨rfl, rfl, rfl, by decide +kernel, rfl, by decide +kernel, by decide +kernel⟩
def StsV (H : Hp) (v : V) (ss : List Ms) : Prop := ∃ a, v = .ref a ∧ Rd H a (.tup (ss.map MsV))
theorem StsV.mono {H H' : Hp} {v : V} {ss : List Ms} (e : Ex H H') (h : StsV H v ss) : StsV H' v ss := by
  obtain ⟨a, h1, h2⟩ := h
  exact ⟨a, h1, ex_rd e h2⟩
theorem StsV.of {H : Hp} {q : Addr} {ss : List Ms} (h : H q = some (.tup (ss.map MsV))) : StsV H (.ref q) ss := ⟨q, rfl, .inl h⟩
def spPushed : Sp := fun vs H Q _ => ∃ (v sv : V) (os : List Od) (ss : List Ms) (u : Tx), vs = [v, sv, st u] ∧ OdsV H v os ∧ StsV H sv ss ∧ OkOs os ∧ SgOs os ∧ OkSs os ss ∧ SgSs ss ∧ AllSg u ∧ pow3 os * (u.length + 2) ≤ 6000 ∧ RetN ((pushM os ss u).1.map MsV) (pushM os ss u).2 H Q
theorem ok_pushed (F : At K mg 20 "pushed") (G : Gb mg) (DL : Df P w K mg base 3 "led" ["order", "state", "signs"] spLed) : Df P w K mg base 4 "pushed" ["orders", "states", "sign"] spPushed := by
  refine Df.made (N := ["orders", "states", "sign", "found", "out", "order", "state"]) F sc_pushed (fun _ _ _ _ _ _ us hl => match us, hl with | [_, _, _], _ => rfl) (fun vs H Q E h => ?_) (fun f cdv A outer s H vs Q E hr h => ?_)
  · obtain ⟨v, sv, os, ss, u, rfl, _⟩ := h; rfl
  refine ⟨_, pss_cons (ps_set (i := 3) sc_pushed.nd rfl (.inl rfl) (pe_lst pa_nil))
    (pss_cons (ps_set (i := 4) sc_pushed.nd rfl (.inl rfl) (pv 2))
    (pss_cons (ps_for (g := g2 K 5 6) PassesOwn.never rfl (pi_zipM (by rfl) G.zip (pa_cons (pv 0) (pa_cons (pv 1) pa_nil))) (pg_tup rfl (pgs_cons (pg_name (i := 5) sc_pushed.nd rfl (.inl rfl)) (pgs_cons (pg_name (i := 6) sc_pushed.nd rfl (.inl rfl)) pgs_nil)))
      (pss_cons (ps_asg (g := g2 K 6 4) (pe_df DL hr (by decide) (by rfl) (pa_cons (pv 5) (pa_cons (pv 6) (pa_cons (pv 4) pa_nil))))
          (pg_tup rfl (pgs_cons (pg_name (i := 6) sc_pushed.nd rfl (.inl rfl)) (pgs_cons (pg_name (i := 4) sc_pushed.nd rfl (.inl rfl)) pgs_nil))))
      (pss_one (ps_expr (pe_bm PySem.F.plainAttrs_list PySem.F.slot_list_append PySem.F.type_list_append mt_append (pv 3) (pa_cons (pv 6) pa_nil))))))
    (pss_one (ps_ret (pe_tup (pa_cons (pe_callTy call_tuple_of (by rfl) G.tup bi_tup (pa_cons (pv 3) pa_nil)) (pa_cons (pv 4) pa_nil))))))), ?_⟩
  obtain ⟨v, sv, os, ss, u, rfl, hv, hsv, ho, hs, hos, hss, hu, hz, q⟩ := h
  obtain ⟨a, xs, rfl, ha, hp⟩ := hv
  obtain ⟨b, rfl, hb⟩ := hsv
  have hln := paired_len hp
  have hls := okSs_len hos
  refine q_asgL (el_lst ea_nil (Nat.zero_le _)) fun l H1 nl e1 hl => ?_
  refine q_asg (ev_var rfl) fun H2 e2 => ?_
  have e02 := e1.trans e2
  refine q_forZ (xs := xs) (ys := ss.map MsV) (ea_cons (ev_var rfl) (ea_cons (ev_var rfl) ea_nil)) (ex_rd e02 ha) (ex_rd e02 hb) (by rw [List.length_map]; omega) (fun i σ H' => ∃ y z pre out, σ = [some (.ref a), some (.ref b), some (st u), some (.ref l), some (st out), y, z] ∧ Ex H H' ∧ H' l = some (.lst (pre.map MsV)) ∧ pre.length = i ∧
      pushM os ss u = (pre ++ (pushM (os.drop i) (ss.drop i) out).1, (pushM (os.drop i) (ss.drop i) out).2) ∧ AllSg out ∧ pow3 (os.drop i) * (out.length + 2) ≤ 6000)
    (fun H3 e3 => ⟨none, none, [], u, rfl, e02.trans e3, e3 _ _ (e2 _ _ hl), rfl, rfl, hu, hz⟩) (fun k σ' H' ⟨y, z, pre, out, _, e, _⟩ => ⟨ex_rd e ha, ex_rd e hb⟩) (fun i x y0 σ' H' hx hy ⟨y, z, pre, out, hσ, e, hl', hpl, hb', hso, hz'⟩ H3 e3 => ?_) (fun σ' H' ⟨y, z, pre, out, hσ, e, hl', hpl, hb', hso, hz'⟩ => ?_)
  · subst hσ
    obtain ⟨o, hoi, hod⟩ := paired_get hp hx
    obtain ⟨s0, hsi, rfl⟩ : ∃ s0, ss[i]? = some s0 ∧ y0 = MsV s0 := by
      rw [List.getElem?_map] at hy
      cases hsi : ss[i]? with
      | none => rw [hsi] at hy; cases hy
      | some s0 => rw [hsi] at hy; cases hy; exact ⟨s0, rfl, rfl⟩
    have hmem : o ∈ os := List.mem_of_getElem? hoi
    have hd := drop_at hoi
    have hd2 := drop_at hsi
    have hoo := ho o hmem
    have hst : OkS o s0 := by
      have h1 := okSs_drop i hos
      rw [hd, hd2] at h1
      exact h1.1
    have hsg := hs.of hmem
    rw [hd] at hz'
    have hoz := pow3_le hz'
    have hls := led_size o hoo out s0 hst
    have e13 := e.trans e3
    refine q_asg2 (eu_call (ea_cons (ev_var rfl) (ea_cons (ev_var rfl) (ea_cons (ev_var rfl) ea_nil))) (spu_led (u := out) (hod.mono e13) hoo hst hsg hso (by omega))) fun H4 e4 => ?_
    have e04 := e13.trans e4
    refine s_app (l := l) (e4 _ _ (e3 _ _ hl')) (ev_var rfl) (ev_var rfl) ?_ fun H5 e5 => ⟨_, _, pre ++ [(ledM o s0 out).1], (ledM o s0 out).2, rfl, (e04.trans e5).mut nl, ?_, ?_, ?_, ?_, ?_⟩
    · have : i < xs.length := (List.getElem?_eq_some_iff.mp hx).1
      have h3 := len_pow3 os
      have h4 := pow3_le hz
      have h5 : pow3 os * 1 ≤ pow3 os * (u.length + 2) := Nat.mul_le_mul_left _ (by omega)
      rw [List.length_map]
      omega
    · rw [upd_same, List.map_append]; rfl
    · rw [List.length_append, hpl]; rfl
    · rw [hb', hd, hd2, List.append_assoc]; rfl
    · exact (sg_led o hsg out s0 (hss s0 (List.mem_of_getElem? hsi)) hso).2
    · exact pow3_step hz' (by omega)
  · subst hσ
    rw [hln, List.drop_length] at hb'
    have e1' : pushM os ss u = (pre, out) := by
      rw [hb']
      show (pre ++ (pushM [] (ss.drop os.length) out).1, (pushM [] (ss.drop os.length) out).2) = _
      have : pushM [] (ss.drop os.length) out = ([], out) := rfl
      rw [this, List.append_nil]
    rw [e1'] at q
    exact s_retN (en_tup (eu_tupleL (ev_var rfl) (.inl hl')) (ev_var rfl)) fun p p2 H3 e3 h1 h2 => q p p2 H3 (e.trans e3) h1 h2
theorem spn_pushed {v sv : V} {os : List Od} {ss : List Ms} {u : Tx} {H : Hp} (hv : OdsV H v os) (hsv : StsV H sv ss) (ho : OkOs os) (hs : SgOs os) (hos : OkSs os ss) (hss : SgSs ss) (hu : AllSg u) (hz : pow3 os * (u.length + 2) ≤ 6000) :
    SpN spPushed [v, sv, st u] H ((pushM os ss u).1.map MsV) (pushM os ss u).2 := fun H1 e Q q E => ⟨v, sv, os, ss, u, rfl, hv.mono e, hsv.mono e, ho, hs, hos, hss, hu, hz, q⟩

theorem sg_flush (o : Od) (ho : AllSg (namedM o)) (s : Ms) (hs : SgS s) : AllSg (flushM o s) := by
  cases o with
  | rep o n => cases s with
    | txt h => exact hs
    | num k => exact AllSg.nil
  | back w => cases s <;> exact ho
  | _ => all_goals (cases s <;> exact AllSg.nil)
/-! ### ended -/
theorem sc_ended : FnScope ["orders", "states", "out", "order", "state"] ["orders", "states"] (defScope (top 21)) := ⟨rfl, rfl, rfl, by decide +kernel, rfl, by decide +kernel, by decide +kernel⟩
def spEnded : Sp := fun vs H Q _ => ∃ (v sv : V) (os : List Od) (ss : List Ms), vs = [v, sv] ∧ OdsV H v os ∧ StsV H sv ss ∧ OkOs os ∧ SgOs os ∧ OkSs os ss ∧ SgSs ss ∧ pow3 os ≤ 3000 ∧ RetV (st (endM os ss)) H Q
theorem ok_ended (F : At K mg 21 "ended") (G : Gb mg) (DL : Df P w K mg base 3 "led" ["order", "state", "signs"] spLed) : Df P w K mg base 4 "ended" ["orders", "states"] spEnded := by
  refine Df.made (N := ["orders", "states", "out", "order", "state"]) F sc_ended (fun _ _ _ _ _ _ us hl => match us, hl with | [_, _], _ => rfl) (fun vs H Q E h => ?_) (fun f cdv A outer s H vs Q E hr h => ?_)
  · obtain ⟨v, sv, os, ss, rfl, _⟩ := h; rfl
  refine ⟨_, pss_cons (ps_set (i := 2) sc_ended.nd rfl (.inl rfl) pe_str)
    (pss_cons (ps_for (g := g2 K 3 4) PassesOwn.never rfl (pi_zipM (by rfl) G.zip (pa_cons (pv 0) (pa_cons (pv 1) pa_nil))) (pg_tup rfl (pgs_cons (pg_name (i := 3) sc_ended.nd rfl (.inl rfl)) (pgs_cons (pg_name (i := 4) sc_ended.nd rfl (.inl rfl)) pgs_nil)))
      (pss_cons (ps_asg (g := g2 K 4 2) (pe_df DL hr (by decide) (by rfl) (pa_cons (pv 3) (pa_cons (pv 4) (pa_cons (pv 2) pa_nil))))
          (pg_tup rfl (pgs_cons (pg_name (i := 4) sc_ended.nd rfl (.inl rfl)) (pgs_cons (pg_name (i := 2) sc_ended.nd rfl (.inl rfl)) pgs_nil))))
      (pss_cons (ps_if (pt_cmpR op_eq (pe_ix ix_tup (pv 3) pe_int (fun _ _ => rfl)) pe_str (nomark _)) (pss_one (ps_aug (i := 2) sc_ended.nd rfl (.inl rfl) (pv 4) ip_addS)) pss_nil)
      (pss_one (ps_if (pt_cmpR op_eq (pe_ix ix_tup (pv 3) pe_int (fun _ _ => rfl)) pe_str (nomark _)) (pss_one (ps_aug (i := 2) sc_ended.nd rfl (.inl rfl) (pe_ix ix_tup (pv 3) pe_int (fun _ _ => rfl)) ip_addS)) pss_nil)))))
    (pss_one (ps_ret (pv 2)))), ?_⟩
  obtain ⟨v, sv, os, ss, rfl, hv, hsv, ho, hs, hos, hss, hz, q⟩ := h
  obtain ⟨a, xs, rfl, ha, hp⟩ := hv
  obtain ⟨b, rfl, hb⟩ := hsv
  have hln := paired_len hp
  have hls := okSs_len hos
  refine q_asg ev_c fun H2 e02 => ?_
  refine q_forZ (xs := xs) (ys := ss.map MsV) (ea_cons (ev_var rfl) (ea_cons (ev_var rfl) ea_nil)) (ex_rd e02 ha) (ex_rd e02 hb) (by rw [List.length_map]; omega) (fun i σ H' => ∃ y z out, σ = [some (.ref a), some (.ref b), some (st out), y, z] ∧ Ex H H' ∧
      endM os ss = psemM (os.drop i) (ss.drop i) out ∧ AllSg out ∧ pow3 (os.drop i) * (out.length + 2) ≤ 6000)
    (fun H3 e3 => ⟨none, none, [], rfl, e02.trans e3, rfl, AllSg.nil, by show pow3 os * 2 ≤ 6000; omega⟩) (fun k σ' H' ⟨y, z, out, _, e, _⟩ => ⟨ex_rd e ha, ex_rd e hb⟩) (fun i x y0 σ' H' hx hy ⟨y, z, out, hσ, e, hb', hso, hz'⟩ H3 e3 => ?_) (fun σ' H' ⟨y, z, out, hσ, e, hb', hso, hz'⟩ => ?_)
  · subst hσ
    obtain ⟨o, hoi, hod⟩ := paired_get hp hx
    obtain ⟨s0, hsi, rfl⟩ : ∃ s0, ss[i]? = some s0 ∧ y0 = MsV s0 := by
      rw [List.getElem?_map] at hy
      cases hsi : ss[i]? with
      | none => rw [hsi] at hy; cases hy
      | some s0 => rw [hsi] at hy; cases hy; exact ⟨s0, rfl, rfl⟩
    have hmem : o ∈ os := List.mem_of_getElem? hoi
    have hd := drop_at hoi
    have hd2 := drop_at hsi
    have hoo := ho o hmem
    have hst : OkS o s0 := by
      have h1 := okSs_drop i hos
      rw [hd, hd2] at h1
      exact h1.1
    have hsg := hs.of hmem
    rw [hd] at hz'
    have hoz := pow3_le hz'
    have hls := led_size o hoo out s0 hst
    have e13 := e.trans e3
    have hs0 := hss s0 (List.mem_of_getElem? hsi)
    have hsl := sg_led o hsg out s0 hs0 hso
    have hst2 := okS_led o hoo out s0 hst
    rw [hd, hd2] at hb'
    have hb2 : endM os ss = psemM (os.drop (i + 1)) (ss.drop (i + 1)) ((ledM o s0 out).2 ++ flushM o (ledM o s0 out).1) := hb'
    have hsz : ((ledM o s0 out).2 ++ flushM o (ledM o s0 out).1).length + 2 ≤ 3 * (out.length + 2) := by
      have := flush_size o hoo (ledM o s0 out).1 hst2
      rw [List.length_append]
      omega
    refine q_asg2 (eu_call (ea_cons (ev_var rfl) (ea_cons (ev_var rfl) (ea_cons (ev_var rfl) ea_nil))) (spu_led (u := out) (hod.mono e13) hoo hst hsg hso (by omega))) fun H4 e4 => ?_
    have e04 := e13.trans e4
    have hod4 := hod.mono e04
    have fin : ∀ {G : Hp} {z1 z2 : Option V}, Ex H G → ∃ y z out', [some (V.ref a), some (V.ref b), some (st ((ledM o s0 out).2 ++ flushM o (ledM o s0 out).1)), z1, z2] = [some (.ref a), some (.ref b), some (st out'), y, z] ∧ Ex H G ∧ endM os ss = psemM (os.drop (i + 1)) (ss.drop (i + 1)) out' ∧ AllSg out' ∧ pow3 (os.drop (i + 1)) * (out'.length + 2) ≤ 6000 := fun {G z1 z2} eG => ⟨z1, z2, _, rfl, eG, hb2, hsl.2.app (sg_flush o hsg _ hsl.1), pow3_step hz' hsz⟩
    cases o with
    | rep o n =>
      obtain ⟨ta, rfl, hta⟩ := hod4
      obtain ⟨h, hh⟩ : ∃ h, (ledM (.rep o n) s0 out).1 = .txt h := by
        cases h1 : (ledM (.rep o n) s0 out).1 with
        | txt h => exact ⟨h, rfl⟩
        | num k => rw [h1] at hst2; exact hst2.elim
      rw [hh] at fin hsz ⊢
      refine q_when (b := true) (et_test (ev_op (ev_ixT (i := 0) (ev_var rfl) ev_c hta rfl) ev_c (rv_eq rfl))) (fun _ G5 e5 => ?_) fun h => nomatch h
      refine s_augS (a := (ledM (.rep o n) s0 out).2) (b := h) rfl (ev_var rfl) (Nat.le_trans (show _ ≤ 100000 by have h7 : ((ledM (.rep o n) s0 out).2 ++ h).length + 2 ≤ 3 * (out.length + 2) := hsz; rw [List.length_append] at h7; omega) (by decide)) fun G6 e6 => ?_
      refine s_when (b := false) (et_test (ev_op (ev_ixT (i := 0) (ev_var rfl) ev_c (ex_rd (e5.trans e6) hta) rfl) ev_c (rv_eq rfl))) (fun h => nomatch h) fun _ G7 e7 => ?_
      exact fin (((e04.trans e5).trans e6).trans e7)
    | back w =>
      obtain ⟨ta, rfl, hta⟩ := hod4
      refine q_when (b := false) (et_test (ev_op (ev_ixT (i := 0) (ev_var rfl) ev_c hta rfl) ev_c (rv_eq rfl))) (fun h => nomatch h) fun _ G5 e5 => ?_
      refine s_when (b := true) (et_test (ev_op (ev_ixT (i := 0) (ev_var rfl) ev_c (ex_rd e5 hta) rfl) ev_c (rv_eq rfl))) (fun _ G7 e7 => ?_) fun h => nomatch h
      exact s_augS (a := (ledM (.back w) s0 out).2) (b := w) rfl (ev_ixT (i := 1) (ev_var rfl) ev_c (ex_rd (e5.trans e7) hta) rfl) (Nat.le_trans (show _ ≤ 100000 by have h7 : ((ledM (.back w) s0 out).2 ++ w).length + 2 ≤ 3 * (out.length + 2) := hsz; rw [List.length_append] at h7; omega) (by decide)) fun G6 e6 => fin (((e04.trans e5).trans e7).trans e6)
    | front w =>
      obtain ⟨ta, rfl, hta⟩ := hod4
      refine q_when (b := false) (et_test (ev_op (ev_ixT (i := 0) (ev_var rfl) ev_c hta rfl) ev_c (rv_eq rfl))) (fun h => nomatch h) fun _ G5 e5 => ?_
      refine s_when (b := false) (et_test (ev_op (ev_ixT (i := 0) (ev_var rfl) ev_c (ex_rd e5 hta) rfl) ev_c (rv_eq rfl))) (fun h => nomatch h) fun _ G7 e7 => ?_
      have fl : (ledM (.front w) s0 out).2 ++ flushM (.front w) (ledM (.front w) s0 out).1 = (ledM (.front w) s0 out).2 := by
        cases (ledM (.front w) s0 out).1 <;> exact List.append_nil _
      rw [fl] at fin
      exact fin ((e04.trans e5).trans e7)
    | first n =>
      obtain ⟨ta, rfl, hta⟩ := hod4
      refine q_when (b := false) (et_test (ev_op (ev_ixT (i := 0) (ev_var rfl) ev_c hta rfl) ev_c (rv_eq rfl))) (fun h => nomatch h) fun _ G5 e5 => ?_
      refine s_when (b := false) (et_test (ev_op (ev_ixT (i := 0) (ev_var rfl) ev_c (ex_rd e5 hta) rfl) ev_c (rv_eq rfl))) (fun h => nomatch h) fun _ G7 e7 => ?_
      have fl : (ledM (.first n) s0 out).2 ++ flushM (.first n) (ledM (.first n) s0 out).1 = (ledM (.first n) s0 out).2 := by
        cases (ledM (.first n) s0 out).1 <;> exact List.append_nil _
      rw [fl] at fin
      exact fin ((e04.trans e5).trans e7)
    | last n =>
      obtain ⟨ta, rfl, hta⟩ := hod4
      refine q_when (b := false) (et_test (ev_op (ev_ixT (i := 0) (ev_var rfl) ev_c hta rfl) ev_c (rv_eq rfl))) (fun h => nomatch h) fun _ G5 e5 => ?_
      refine s_when (b := false) (et_test (ev_op (ev_ixT (i := 0) (ev_var rfl) ev_c (ex_rd e5 hta) rfl) ev_c (rv_eq rfl))) (fun h => nomatch h) fun _ G7 e7 => ?_
      have fl : (ledM (.last n) s0 out).2 ++ flushM (.last n) (ledM (.last n) s0 out).1 = (ledM (.last n) s0 out).2 := by
        cases (ledM (.last n) s0 out).1 <;> exact List.append_nil _
      rw [fl] at fin
      exact fin ((e04.trans e5).trans e7)
    | letters ps =>
      obtain ⟨ta, l, vs, rfl, hta, _⟩ := hod4
      refine q_when (b := false) (et_test (ev_op (ev_ixT (i := 0) (ev_var rfl) ev_c hta rfl) ev_c (rv_eq rfl))) (fun h => nomatch h) fun _ G5 e5 => ?_
      refine s_when (b := false) (et_test (ev_op (ev_ixT (i := 0) (ev_var rfl) ev_c (ex_rd e5 hta) rfl) ev_c (rv_eq rfl))) (fun h => nomatch h) fun _ G7 e7 => ?_
      have fl : (ledM (.letters ps) s0 out).2 ++ flushM (.letters ps) (ledM (.letters ps) s0 out).1 = (ledM (.letters ps) s0 out).2 := by
        cases (ledM (.letters ps) s0 out).1 <;> exact List.append_nil _
      rw [fl] at fin
      exact fin ((e04.trans e5).trans e7)
  · subst hσ
    rw [hln, List.drop_length] at hb'
    have e1' : endM os ss = out := hb'
    rw [e1'] at q
    exact s_ret (ev_var rfl) fun H3 e3 => q H3 (e.trans e3)
theorem spv_ended {v sv : V} {os : List Od} {ss : List Ms} {H : Hp} (hv : OdsV H v os) (hsv : StsV H sv ss) (ho : OkOs os) (hs : SgOs os) (hos : OkSs os ss) (hss : SgSs ss) (hz : pow3 os ≤ 3000) :
    SpV spEnded [v, sv] H (st (endM os ss)) := spv_of fun H1 e Q E q => ⟨v, sv, os, ss, rfl, hv.mono e, hsv.mono e, ho, hs, hos, hss, hz, q⟩
end
end Ev
set_option Elab.async false
set_option linter.all false
set_option maxRecDepth 100000
set_option maxHeartbeats 4000000
namespace Ev
open PySem PySem.Spec PyProof.Rows L2 Evl
section
variable {P : Program} {w : World} {K : PySem.W.Frag} {mg : Str → Option Value} {base : Heap}
theorem small {n : Nat} (h : n ≤ 100000) : n ≤ sizeLine := Nat.le_trans h (by decide)
section
variable {σ : L2.St} {H : Hp} {ta tb te tl : TE} {t : TT} {xs : List V} {D : Ends} {tu tz : TS}
/-- a comprehension over a list as it stands, any target -/
theorem el_lcG {a : Addr} {xs : List V} {g : TG} {vs : List Nat} (f : Nat → Bool) (v : Nat → V) (σ' : Nat → L2.St) (h : Ev tl σ H (.ref a)) (hx : Rd H a (.lst xs)) (hz : xs.length ≤ 40000) (hw : ∀ i, wipe (σ' i) vs = wipe σ vs)
    (hg : ∀ (i : Nat) (x : V) H1 (Q : L2.St → Hp → Prop), Ex H H1 → xs[i]? = some x → Q (σ' i) H1 → g x (wipe σ vs) H1 Q)
    (ht : ∀ (i : Nat) (x : V) H1, Ex H H1 → xs[i]? = some x → EvT t (σ' i) H1 (f i)) (he : ∀ (i : Nat) (x : V) H1, Ex H H1 → xs[i]? = some x → f i = true → Ev te (σ' i) H1 (v i)) :
    EvL (tLc (iList K tl) g t te vs) σ H (given xs.length f v) := fun H0 e Q q => h H0 e _ fun H1 e1 => ⟨a, rfl, ⟨xs, rd_l (ex_rd (e.trans e1) hx)⟩, fun Dl hD =>
  lc_it (walk_list (xs := xs)) (Cw H1 f v Dl) ⟨hD, Ex.new hD, upd_same⟩ (fun i H' _ p => rd_l (ex_rd ((e.trans e1).trans p.2.1) hx)) (fun i x H2 H' hi p hy => by
    obtain ⟨rfl, hy⟩ := hy
    exact hg i x _ _ ((e.trans e1).trans p.2.1) hy ⟨hw i, cw_turn p (by omega) (ht i x H1 (e.trans e1) hy) (fun hf => he i x H1 (e.trans e1) hy hf)⟩)
    (fun H' p => q Dl H' (fresh_back e1 p.1) (e1.trans p.2.1) p.2.2)⟩
/-- over a new tuple -/
theorem el_lcU {xs : List V} {j : Nat} {vs : List Nat} (f : Nat → Bool) (v : Nat → V) (h : EvU tl σ H xs) (hz : xs.length ≤ 40000) (hw : ∀ x, wipe ((wipe σ vs).set j (some x)) vs = wipe σ vs)
    (ht : ∀ (i : Nat) (x : V) H1, Ex H H1 → xs[i]? = some x → EvT t ((wipe σ vs).set j (some x)) H1 (f i)) (he : ∀ (i : Nat) (x : V) H1, Ex H H1 → xs[i]? = some x → f i = true → Ev te ((wipe σ vs).set j (some x)) H1 (v i)) :
    EvL (tLc (iTup K tl) (gName j) t te vs) σ H (given xs.length f v) := fun H0 e Q q => h H0 e _ fun a H1 ha e1 hx => ⟨a, rfl, ⟨xs, st_of hx⟩, fun Dl hD =>
  lc_it (walk_tup (xs := xs)) (Cw H1 f v Dl) ⟨hD, Ex.new hD, upd_same⟩ (fun i H' _ p => st_of (p.2.1 a _ hx)) (fun i x H2 H' hi p hy => by
    obtain ⟨rfl, hy⟩ := hy
    exact ⟨hw x, cw_turn p (by omega) (ht i x H1 (e.trans e1) hy) (fun hf => he i x H1 (e.trans e1) hy hf)⟩)
    (fun H' p => q Dl H' (fresh_back e1 p.1) (e1.trans p.2.1) p.2.2)⟩
theorem eu_slT {tl th : TO} {a : Addr} {xs : List V} {lo hi : Option Int} (h : Ev te σ H (.ref a)) (h1 : EvO tl σ H lo) (h2 : EvO th σ H hi) (hs : Rd H a (.tup xs)) (hn : ¬ (HT.sIx xs.length 0 lo = 0 ∧ HT.sIx xs.length xs.length hi = xs.length)) : EvU (tSl (rSlT K) te tl th) σ H (cutV xs lo hi) := fun H1 e _ q =>
  h H1 e _ fun H2 e2 => h1 H2 (e.trans e2) _ fun H3 e3 => h2 H3 ((e.trans e2).trans e3) _ fun H4 e4 =>
    ⟨a, xs, rfl, rd_t (ex_rd (((e.trans e2).trans e3).trans e4) hs), hn, fun p hp => q p _ (fresh_back ((e2.trans e3).trans e4) hp) (((e2.trans e3).trans e4).trans (Ex.new hp)) upd_same⟩
end
theorem given_filter (x : Tx) (p : Nat → Bool) (g : Nat → V) : given x.length (fun i => p (x.getD i 0)) (fun i => g (x.getD i 0)) = (x.filter p).map g := by
  unfold given
  have e := range_get (fun c => c) x
  rw [List.map_id'] at e
  conv => rhs; rw [← e, List.filter_map, List.map_map]
  rfl
theorem getD_of {x : Tx} {i c : Nat} (h : x[i]? = some c) : x.getD i 0 = c := by rw [List.getD_eq_getElem?_getD, h]; rfl
theorem range_getD {α β : Type} (d : α) (g : α → β) (x : List α) : (List.range x.length).map (fun i => g (x.getD i d)) = x.map g := by
  refine List.ext_getElem? fun i => ?_
  rw [List.getElem?_map, List.getElem?_map]
  rcases Nat.lt_or_ge i x.length with h | h
  · rw [List.getElem?_range h, List.getElem?_eq_getElem h]
    simp [List.getD_eq_getElem?_getD, List.getElem?_eq_getElem h]
  · rw [List.getElem?_eq_none (by simpa using h), List.getElem?_eq_none h]
    rfl
theorem getDg_of {α : Type} {d : α} {x : List α} {i : Nat} {c : α} (h : x[i]? = some c) : x.getD i d = c := by rw [List.getD_eq_getElem?_getD, h]; rfl
theorem pairs_len : ∀ ps : List (Nat × Nat), ((ps.map fun p => [p.1] ++ [p.2]).flatten).length = 2 * ps.length
  | [] => rfl
  | p :: ps => by
    have := pairs_len ps
    show ([p.1] ++ [p.2] ++ (ps.map fun p => [p.1] ++ [p.2]).flatten).length = _
    rw [List.length_append, this]
    simp
    omega
theorem pairs_len2 (ps : List (Nat × Nat)) : (namedM (.letters ps)).length = 2 * ps.length := pairs_len ps
/-! ### signs_in -/
theorem sc_signs_in : FnScope ["order", "one", "other", "part"] ["order"] (defScope (top 22)) := ⟨rfl, rfl, rfl, by decide +kernel, rfl, by decide +kernel, by decide +kernel⟩
def spSignsIn : Sp := fun vs H Q _ => ∃ (v : V) (o : Od), vs = [v] ∧ OdV H v o ∧ OkO o ∧ RetV (st (namedM o)) H Q
theorem cut1 {x : V} {r : List V} : cutV (x :: r) (some (1 : Int)) none = r := by
  unfold cutV
  rw [show (1 : Int) = ((1 : Nat) : Int) from rfl, HT.sIx_nat, HT.sIx_none]
  have e : min 1 (x :: r).length = 1 := by simp
  rw [e]
  show r.take _ = r
  exact List.take_of_length_le (by simp)
theorem ncut1 {x : V} {r : List V} : ¬ (HT.sIx (x :: r).length 0 (some (1 : Int)) = 0 ∧ HT.sIx (x :: r).length (x :: r).length none = (x :: r).length) := fun ⟨h, _⟩ => by
  rw [show (1 : Int) = ((1 : Nat) : Int) from rfl, HT.sIx_nat] at h
  have e : min 1 (x :: r).length = 1 := by simp
  omega
theorem sum_le (ys : List Tx) : ((ys.map S).map fun s => s.length).sum = ys.flatten.length := by
  rw [List.map_map, List.length_flatten]
  congr 1
theorem ok_signs_in (F : At K mg 22 "signs_in") (G : Gb mg) : Df P w K mg base 1 "signs_in" ["order"] spSignsIn := by
  refine Df.made (N := ["order", "one", "other", "part"]) F sc_signs_in (fun _ _ _ _ _ _ us hl => match us, hl with | [_], _ => rfl) (fun vs H Q E h => ?_) (fun f cdv A outer s H vs Q E hr h => ?_)
  · obtain ⟨v, o, rfl, _⟩ := h; rfl
  refine ⟨_, pss_cons (ps_if (pt_cmpR op_eq (pe_ix ix_tup (pv 0) pe_int (fun _ _ => rfl)) pe_str (nomark _))
      (pss_one (ps_ret (pe_join pe_str (pe_lc (own := [("one", 1), ("other", 2)]) (g := g2 K 1 2) rfl sc_signs_in.nd (pi_list (pe_ix ix_tup (pv 0) pe_int (fun _ _ => rfl))) (blkOk_by (own := [("one", 1), ("other", 2)]) (N := ["order", "one", "other", "part"]) (sc := defScope (top 22)) (by decide +kernel))
        (fun _ _ _ _ _ => pg_tup rfl (pgs_cons (pg_name (i := 1) sc_signs_in.nd rfl (.inl rfl) (.inr rfl)) (pgs_cons (pg_name (i := 2) sc_signs_in.nd rfl (.inl rfl) (.inr rfl)) pgs_nil))) (fun _ _ _ _ _ => pts_nil) (fun _ _ _ _ _ => pe_op op_add_str (pv 1) (pv 2)))))) pss_nil)
    (pss_one (ps_ret (pe_join pe_str (pe_lc (own := [("part", 3)]) (g := gName 3) (tt := tB (tCB (rIsi K) (tCons (tVar 3) (tCons (tC (.ty "str")) tNil)))) rfl sc_signs_in.nd (pi_tup (pe_slice sl_tup (pv 0) (po_some pe_int) po_none)) (blkOk_by (own := [("part", 3)]) (N := ["order", "one", "other", "part"]) (sc := defScope (top 22)) (by decide +kernel))
        (fun _ _ _ _ _ => pg_name (i := 3) sc_signs_in.nd rfl (.inl rfl)) (fun _ _ _ _ _ => pts_one (pt_val (pe_isi (pv 3) rfl G.isi rfl G.str bi_str))) (fun _ _ _ _ _ => pv 3))))), ?_⟩
  obtain ⟨v, o, rfl, hv, ho, q⟩ := h
  have cases2 : (∃ (a l : Addr) (vs : List V) (ps : List (Nat × Nat)), o = .letters ps ∧ v = .ref a ∧ Rd H a (.tup [.str "letters", .ref l]) ∧ Rd H l (.lst vs) ∧ Paired (PairV H) vs ps) ∨
      (∃ (a : Addr) (nm : Str) (ys : List Tx), v = .ref a ∧ (decide ((.str nm : V) = .str "letters") = false) ∧ Rd H a (.tup (.str nm :: ys.map st)) ∧ ys.flatten = namedM o ∧ ys.length ≤ 2) ∨
      (∃ (a : Addr) (nm : Str) (n : Int), v = .ref a ∧ (decide ((.str nm : V) = .str "letters") = false) ∧ Rd H a (.tup [.str nm, .int n]) ∧ namedM o = []) := by
    cases o with
    | letters ps => obtain ⟨a, l, vs, h1, h2, h3, h4⟩ := hv; exact .inl ⟨a, l, vs, ps, rfl, h1, h2, h3, h4⟩
    | rep o n => obtain ⟨a, h1, h2⟩ := hv; exact .inr (.inl ⟨a, _, [o, n], h1, rfl, h2, by simp [namedM], Nat.le_refl _⟩)
    | front w => obtain ⟨a, h1, h2⟩ := hv; exact .inr (.inl ⟨a, _, [w], h1, rfl, h2, by simp [namedM], by simp⟩)
    | back w => obtain ⟨a, h1, h2⟩ := hv; exact .inr (.inl ⟨a, _, [w], h1, rfl, h2, by simp [namedM], by simp⟩)
    | first n => obtain ⟨a, h1, h2⟩ := hv; exact .inr (.inr ⟨a, _, _, h1, rfl, h2, rfl⟩)
    | last n => obtain ⟨a, h1, h2⟩ := hv; exact .inr (.inr ⟨a, _, _, h1, rfl, h2, rfl⟩)
  rcases cases2 with ⟨a, l, vs, ps, rfl, rfl, ha, hl, hp⟩ | ⟨a, nm, ys, rfl, hnm, ha, hf, hlen⟩ | ⟨a, nm, n, rfl, hnm, ha, hf⟩
  · refine q_when (b := true) (et_test (ev_op (ev_ixT (i := 0) (ev_var rfl) ev_c ha rfl) ev_c (rv_eq rfl))) (fun _ G0 e0 => ?_) fun h => nomatch h
    have hln := paired_len hp
    have hps : ps.length ≤ 8 := ho.2
    refine s_ret (ev_is (ev_join (ys := ps.map fun p => [p.1] ++ [p.2]) ev_c (el_is (el_lcG (a := l) (xs := vs) (fun _ => true) (fun i => st ([(ps.getD i (0, 0)).1] ++ [(ps.getD i (0, 0)).2])) (fun i => [some (.ref a), some (st [(ps.getD i (0, 0)).1]), some (st [(ps.getD i (0, 0)).2]), none])
      (ev_ixT (i := 1) (ev_var rfl) ev_c (ex_rd e0 ha) rfl) (ex_rd e0 hl) (by omega) (fun _ => rfl) (fun i x H1 Q e hx q2 => ?_) (fun i x H1 e hx => fun H2 e2 Q q2 => q2 H2 (Ex.refl H2)) (fun i x H1 e hx _ => ?_)) ?_) ?_) ?_) fun H1 e1 => q H1 (e0.trans e1)
    · obtain ⟨p, hpi, b, rfl, hb⟩ := paired_get hp hx
      refine ⟨b, [st [p.1], st [p.2]], rfl, rd_t (ex_rd (e0.trans e) hb), rfl, _, _, rfl, _, _, rfl, rfl, ?_⟩
      have e4 := getDg_of (d := (0, 0)) hpi
      rw [e4] at q2
      exact q2
    · exact ev_op (ev_var rfl) (ev_var rfl) (rv_addS (small (by simp)))
    · rw [given_all fun _ _ => rfl, hln, range_getD (0, 0) (fun p : Nat × Nat => st ([p.1] ++ [p.2])) ps, List.map_map]
      rfl
    · rw [sum_le]
      have := pairs_len ps
      omega
    · rfl
  · refine q_when (b := false) (et_test (ev_is (ev_op (ev_ixT (i := 0) (ev_var rfl) ev_c ha rfl) ev_c (rv_eq rfl)) (by rw [hnm]))) (fun h => nomatch h) fun _ G0 e0 => ?_
    refine s_ret (ev_is (ev_join (ys := ys) ev_c (el_is (el_lcU (xs := ys.map st) (fun _ => true) (fun i => st (ys.getD i [])) (eu_is (eu_slT (lo := some (1 : Int)) (hi := none) (ev_var rfl) (eo_some ev_c) eo_none (ex_rd e0 ha) ncut1) cut1) (by rw [List.length_map]; omega) (fun _ => rfl) (fun i x H1 e hx => ?_) (fun i x H1 e hx _ => ?_)) ?_) ?_) (by rw [hf])) fun H1 e1 => q H1 (e0.trans e1)
    · rw [List.getElem?_map] at hx
      cases hy : ys[i]? with
      | none => rw [hy] at hx; cases hx
      | some y => rw [hy] at hx; cases hx; exact et_B (ev_isi (ty := "str") (ev_var rfl) (fun _ _ => .base (.str _)) (by decide +kernel))
    · rw [List.getElem?_map] at hx
      cases hy : ys[i]? with
      | none => rw [hy] at hx; cases hx
      | some y => rw [hy] at hx; cases hx; rw [getDg_of hy]; exact ev_var rfl
    · rw [given_all fun _ _ => rfl, List.length_map, range_getD [] st ys]
    · rw [sum_le, hf]
      have : (namedM o).length ≤ 1000 := by
        cases o with
        | rep o n => have := ho.2; simp [namedM]; omega
        | front w => have h : w.length ≤ 3 := ho; simp [namedM]; omega
        | back w => have h : w.length ≤ 3 := ho; simp [namedM]; omega
        | first n => simp [namedM]
        | last n => simp [namedM]
        | letters ps =>
          have h5 : ps.length ≤ 8 := ho.2
          have := pairs_len2 ps
          show (namedM (.letters ps)).length ≤ 1000
          omega
      omega
  · refine q_when (b := false) (et_test (ev_is (ev_op (ev_ixT (i := 0) (ev_var rfl) ev_c ha rfl) ev_c (rv_eq rfl)) (by rw [hnm]))) (fun h => nomatch h) fun _ G0 e0 => ?_
    refine s_ret (ev_is (ev_join (ys := []) ev_c (el_is (el_lcU (xs := [.int n]) (fun _ => false) (fun i => .non) (eu_is (eu_slT (lo := some (1 : Int)) (hi := none) (ev_var rfl) (eo_some ev_c) eo_none (ex_rd e0 ha) ncut1) cut1) (by simp) (fun _ => rfl) (fun i x H1 e hx => ?_) (fun i x H1 e hx h => nomatch h)) (given_none fun _ _ => rfl)) (by simp)) (by rw [hf]; rfl)) fun H1 e1 => q H1 (e0.trans e1)
    have hi : x = .int n := by
      cases i with
      | zero => cases hx; rfl
      | succ i => cases hx
    subst hi
    exact et_B (ev_isi (ty := "int") (ev_var rfl) (fun _ _ => .base (.int _)) (by decide +kernel))
theorem spv_signsIn {v : V} {o : Od} {H : Hp} (hv : OdV H v o) (ho : OkO o) : SpV spSignsIn [v] H (st (namedM o)) := spv_of fun H1 e Q E q => ⟨v, o, rfl, hv.mono e, ho, q⟩
theorem inV_sg {c : Nat} {l : Tx} : inV (st [c]) (l.map fun d => st [d]) = l.contains c := by
  induction l with
  | nil => rfl
  | cons d l ih =>
    show (eqV (st [d]) (st [c]) || inV (st [c]) (l.map fun d => st [d])) = _
    rw [ih, List.contains_cons]
    congr 1
    show ((S [d]) == (S [c])) = (c == d)
    by_cases h : c = d
    · subst h; simp
    · have h1 : ¬ (S [d] = S [c]) := fun z => h (by have := S_inj z; simpa using this.symm)
      rw [beq_eq_false_iff_ne.mpr h1, beq_eq_false_iff_ne.mpr h]
theorem flat_sg (l : Tx) : (l.map fun d => st [d]).all flatV = true := by
  rw [List.all_map, List.all_eq_true]
  exact fun _ _ => rfl
theorem cutV_to {xs : List V} {n : Nat} : cutV xs none (some (n : Int)) = xs.take n := by
  unfold cutV
  rw [HT.sIx_nat, HT.sIx_none, List.drop_zero, Nat.sub_zero]
  rcases Nat.le_total n xs.length with h | h
  · rw [Nat.min_eq_left h]
  · rw [Nat.min_eq_right h, List.take_length, List.take_of_length_le h]
theorem named_len (o : Od) (ho : OkO o) : (namedM o).length ≤ 16 := by
  cases o with
  | rep o n => have := ho.2; simp [namedM]; omega
  | front w => have h : w.length ≤ 3 := ho; simp [namedM]; omega
  | back w => have h : w.length ≤ 3 := ho; simp [namedM]; omega
  | first n => simp [namedM]
  | last n => simp [namedM]
  | letters ps =>
    have h5 : ps.length ≤ 8 := ho.2
    have := pairs_len2 ps
    show (namedM (.letters ps)).length ≤ 16
    omega
theorem nameds_len : ∀ (os : List Od), OkOs os → (namedsM os).length ≤ 16 * os.length
  | [], _ => Nat.le_refl _
  | o :: os, ho => by
    have h1 := named_len o ho.head
    have h2 := nameds_len os ho.tail
    show (namedM o ++ namedsM os).length ≤ 16 * (os.length + 1)
    rw [List.length_append]
    omega
/-! ### signs_for -/
theorem sc_signs_for : FnScope ["orders", "word", "more", "named", "others", "order", "sign"] ["orders", "word", "more"] (defScope (top 23)) := ⟨rfl, rfl, rfl, by decide +kernel, rfl, by decide +kernel, by decide +kernel⟩
def spSignsFor : Sp := fun vs H Q _ => ∃ (v : V) (os : List Od) (x : Tx) (m : Nat), vs = [v, st x, .int m] ∧ OdsV H v os ∧ OkOs os ∧ x.length ≤ 1000 ∧ os.length ≤ 100 ∧ RetL ((signsM os x m).map fun c => st [c]) H Q
theorem ok_signs_for (F : At K mg 23 "signs_for") (G : Gb mg) (DS : Df P w K mg base 1 "signs_in" ["order"] spSignsIn) : Df P w K mg base 2 "signs_for" ["orders", "word", "more"] spSignsFor := by
  refine Df.made (N := ["orders", "word", "more", "named", "others", "order", "sign"]) F sc_signs_for (fun _ _ _ _ _ _ us hl => match us, hl with | [_, _, _], _ => rfl) (fun vs H Q E h => ?_) (fun f cdv A outer s H vs Q E hr h => ?_)
  · obtain ⟨v, os, x, m, rfl, _⟩ := h; rfl
  obtain ⟨tl, gl⟩ := G.ls
  refine ⟨_, pss_cons (ps_set (i := 3) sc_signs_for.nd rfl (.inr rfl) (pe_op op_add_str (pv 1) (pe_join pe_str
      (pe_lc (own := [("order", 5)]) (g := gName 5) rfl sc_signs_for.nd (pi_list (pv 0)) (blkOk_by (own := [("order", 5)]) (N := ["orders", "word", "more", "named", "others", "order", "sign"]) (sc := defScope (top 23)) (by decide +kernel))
        (fun _ _ _ _ _ => pg_name (i := 5) sc_signs_for.nd rfl (.inl rfl)) (fun _ _ _ _ _ => pts_nil) (fun _ _ _ _ _ => pe_df DS hr (by decide) (by rfl) (pa_cons (pv 5) pa_nil))))))
    (pss_cons (ps_set (i := 4) sc_signs_for.nd rfl (.inr rfl) (pe_lc (own := [("sign", 6)]) (g := gName 6) rfl sc_signs_for.nd (pi_str (pe_glob (v := .str " abcdefghijklmnopqrstuvwxyz") rfl gl ⟨_, rfl⟩)) (blkOk_by (own := [("sign", 6)]) (N := ["orders", "word", "more", "named", "others", "order", "sign"]) (sc := defScope (top 23)) (by decide +kernel))
        (fun _ _ _ _ _ => pg_name (i := 6) sc_signs_for.nd rfl (.inl rfl)) (fun _ _ _ _ _ => pts_one (pt_cmpR op_notInS (pv 6) (pv 3) rfl)) (fun _ _ _ _ _ => pv 6)))
    (pss_one (ps_ret (pe_lc (own := [("sign", 6)]) (g := gName 6) (tt := tOr (tTest (tOp rInS (tVar 6) (tVar 3))) (tTest (tOp (rIn K false) (tVar 6) (tSl (rSlL K) (tVar 4) tNoPart (tPart (tVar 2)))))) rfl sc_signs_for.nd (pi_str (pe_glob (v := .str " abcdefghijklmnopqrstuvwxyz") rfl gl ⟨_, rfl⟩)) (blkOk_by (own := [("sign", 6)]) (N := ["orders", "word", "more", "named", "others", "order", "sign"]) (sc := defScope (top 23)) (by decide +kernel))
        (fun _ _ _ _ _ => pg_name (i := 6) sc_signs_for.nd rfl (.inl rfl)) (fun _ _ _ _ _ => pts_one (PW.pt (pw_or (pt_cmpR op_inS (pv 6) (pv 3) rfl) (pw_or1 (pt_cmpR op_in_seq (pv 6) (pe_slice sl_list (pv 4) po_none (po_some (pv 2))) rfl))))) (fun _ _ _ _ _ => pv 6))))), ?_⟩
  obtain ⟨v, os, x, m, rfl, hv, ho, hx, hn, q⟩ := h
  obtain ⟨a, xs, rfl, ha, hp⟩ := hv
  have hln := paired_len hp
  have hnl := nameds_len os ho
  have co : ∀ (c : Nat) (l : Tx), decide (c ∈ l) = l.contains c := fun c l => by simp
  refine q_asg (v := st (x ++ namedsM os)) (ev_op (ev_var rfl) (ev_is (ev_join (ys := os.map namedM) ev_c (el_is (el_lcL (a := a) (xs := xs) (fun _ => true) (fun i => st (namedM (os.getD i (.first 0)))) (ev_var rfl) (rd_l ha) (by omega) (fun _ => rfl) (fun i y H1 e hy => fun H2 e2 Q q2 => q2 H2 (Ex.refl H2)) (fun i y H1 e hy _ => ?_)) ?_) ?_) rfl) (rv_addS (a := x) (b := namedsM os) (small (by omega)))) fun H1 e1 => ?_
  · obtain ⟨o, hoi, hod⟩ := paired_get hp hy
    rw [getDg_of hoi]
    exact ev_call (ea_cons (ev_var rfl) ea_nil) (spv_signsIn (hod.mono e) (ho o (List.mem_of_getElem? hoi)))
  · rw [given_all fun _ _ => rfl, hln, range_getD (.first 0) (fun o => st (namedM o)) os, List.map_map]
    rfl
  · rw [sum_le]
    show (namedsM os).length ≤ _
    omega
  refine q_asgL (xs := (othersM (x ++ namedsM os)).map fun c => st [c]) (el_is (el_lcS (x := SG) (fun i => !((x ++ namedsM os).contains (SG.getD i 0))) (fun i => st [SG.getD i 0]) (ev_is ev_c (by rw [ls_S])) (by decide) (fun _ => rfl) (fun i c H2 e hc => ?_) (fun i c H2 e hc _ => ?_)) ?_) fun l H2 nl e2 hl => ?_
  · rw [getD_of hc]
    exact et_test (ev_op (ev_var rfl) (ev_var rfl) (rv_notIn (by rw [co])))
  · rw [getD_of hc]
    exact ev_var rfl
  · exact given_filter SG (fun c => !((x ++ namedsM os).contains c)) (fun c => st [c])
  have e02 := e1.trans e2
  refine s_retL (xs := (signsM os x m).map fun c => st [c]) (el_is (el_lcS (x := SG) (fun i => (x ++ namedsM os).contains (SG.getD i 0) || ((othersM (x ++ namedsM os)).take m).contains (SG.getD i 0)) (fun i => st [SG.getD i 0]) (ev_is ev_c (by rw [ls_S])) (by decide) (fun _ => rfl) (fun i c H3 e hc => ?_) (fun i c H3 e hc _ => ?_)) ?_) fun p H3 np e3 h3 => q p H3 (fresh_back e02 np) (e02.trans e3) h3
  · rw [getD_of hc]
    refine et_or (et_test (ev_op (ev_var rfl) (ev_var rfl) (rv_in (by rw [co])))) fun _ => et_test (ev_opL (xs := ((othersM (x ++ namedsM os)).take m).map fun c => st [c]) (ev_var rfl) (el_is (el_sl (lo := none) (hi := some (m : Int)) (ev_var rfl) eo_none (eo_some (ev_var rfl)) (sq_of (e _ _ hl))) (by rw [cutV_to, List.map_take])) fun p H4 h4 e4 => ?_)
    rw [← inV_sg]
    exact rv_isL (sq_of h4) rfl (flat_sg _)
  · rw [getD_of hc]
    exact ev_var rfl
  · exact given_filter SG (fun c => (x ++ namedsM os).contains c || ((othersM (x ++ namedsM os)).take m).contains c) (fun c => st [c])
theorem spl_signsFor {v : V} {os : List Od} {x : Tx} {m : Nat} {H : Hp} (hv : OdsV H v os) (ho : OkOs os) (hx : x.length ≤ 1000) (hn : os.length ≤ 100) : SpL spSignsFor [v, st x, .int m] H ((signsM os x m).map fun c => st [c]) :=
  spl_of fun H1 e Q E q => ⟨v, os, x, m, rfl, hv.mono e, ho, hx, hn, q⟩

/-! ### apart -/
theorem sc_apart : FnScope ["one", "other", "at"] ["one", "other"] (defScope (top 24)) := ⟨rfl, rfl, rfl, by decide +kernel, rfl, by decide +kernel, by decide +kernel⟩
def spApart : Sp := fun vs H Q _ => ∃ (x y : Tx), vs = [st x, st y] ∧ x.length ≤ 40000 ∧ y.length ≤ 40000 ∧ RetU [st (apartM x y).1, st (apartM x y).2] H Q
theorem ok_apart (F : At K mg 24 "apart") (G : Gb mg) : Df P w K mg base 1 "apart" ["one", "other"] spApart := by
  refine Df.made (N := ["one", "other", "at"]) F sc_apart (fun _ _ _ _ _ _ us hl => match us, hl with | [_, _], _ => rfl) (fun vs H Q E h => ?_) (fun f cdv A outer s H vs Q E hr h => ?_)
  · obtain ⟨x, y, rfl, _⟩ := h; rfl
  refine ⟨_, pss_cons (ps_set (i := 2) sc_apart.nd rfl (.inl rfl) pe_int)
    (pss_cons (ps_while PassesOwn.never (PW.pt (pw_and (pt_cmpR op_lt (pv 2) (pe_callB call_len_str (by rfl) G.len bi_len (pa_cons (pv 0) pa_nil)) (nomark _)) (pw_and (pt_cmpR op_lt (pv 2) (pe_callB call_len_str (by rfl) G.len bi_len (pa_cons (pv 1) pa_nil)) (nomark _))
        (pw_and1 (pt_cmpR op_eq (pe_ix ix_str (pv 0) (pv 2) (fun _ _ => rfl)) (pe_ix ix_str (pv 1) (pv 2) (fun _ _ => rfl)) (nomark _))))))
      (pss_one (ps_aug (i := 2) sc_apart.nd rfl (.inl rfl) pe_int ip_add)))
    (pss_one (ps_ret (pe_tup (pa_cons (pe_slice sl_str (pv 0) (po_some (pv 2)) po_none) (pa_cons (pe_slice sl_str (pv 1) (po_some (pv 2)) po_none) pa_nil)))))), ?_⟩
  obtain ⟨x, y, rfl, hx, hy, q⟩ := h
  refine q_asg ev_c fun H1 e1 => ?_
  refine q_while (fun m σ H' => ∃ k : Nat, σ = [some (st x), some (st y), some (.int (k : Int))] ∧ Ex H H' ∧ m = x.length - k ∧ k ≤ x.length ∧ k ≤ y.length ∧ apartM (x.drop k) (y.drop k) = apartM x y) x.length
    ⟨0, rfl, e1, rfl, Nat.zero_le _, Nat.zero_le _, rfl⟩ fun m σ H' ⟨k, hσ, e, hm, hkx, hky, hap⟩ => ?_
  subst hσ
  refine ⟨decide ((k : Int) < (x.length : Int)) && (decide ((k : Int) < (y.length : Int)) && decide ([x.getD k 0] = [y.getD k 0])), et_and (et_test (ev_op (ev_var rfl) (ev_lenS (ev_var rfl) (small (by omega))) rv_I0)) fun h1 => et_and (et_test (ev_op (ev_var rfl) (ev_lenS (ev_var rfl) (small (by omega))) rv_I0)) fun h2 => ?_, fun hb H2 e2 => ?_, fun hb H2 e2 => ?_⟩
  · have g1 : k < x.length := by have := of_decide_eq_true h1; omega
    have g2 : k < y.length := by have := of_decide_eq_true h2; omega
    have f1 : x[k]? = some (x.getD k 0) := by rw [List.getD_eq_getElem?_getD, List.getElem?_eq_getElem g1]; rfl
    have f2 : y[k]? = some (y.getD k 0) := by rw [List.getD_eq_getElem?_getD, List.getElem?_eq_getElem g2]; rfl
    exact et_test (ev_op (ev_op (ev_var rfl) (ev_var rfl) (rv_ixS' (by omega) f1)) (ev_op (ev_var rfl) (ev_var rfl) (rv_ixS' (by omega) f2)) rv_eqS)
  · rw [Bool.and_eq_true, Bool.and_eq_true] at hb
    have g1 : k < x.length := by have := of_decide_eq_true hb.1; omega
    have g2 : k < y.length := by have := of_decide_eq_true hb.2.1; omega
    have g3 : x.getD k 0 = y.getD k 0 := by have := of_decide_eq_true hb.2.2; simpa using this
    have f1 : x[k]? = some (x.getD k 0) := by rw [List.getD_eq_getElem?_getD, List.getElem?_eq_getElem g1]; rfl
    have f2 : y[k]? = some (y.getD k 0) := by rw [List.getD_eq_getElem?_getD, List.getElem?_eq_getElem g2]; rfl
    refine ⟨fun σ H' => ∃ m', m' < m ∧ ∃ k : Nat, σ = [some (st x), some (st y), some (.int (k : Int))] ∧ Ex H H' ∧ m' = x.length - k ∧ k ≤ x.length ∧ k ≤ y.length ∧ apartM (x.drop k) (y.drop k) = apartM x y, fun _ _ h => h, ?_⟩
    refine s_aug (a := (k : Int)) (b := 1) rfl ev_c fun H3 e3 => ⟨x.length - (k + 1), by omega, k + 1, rfl, (e.trans e2).trans e3, rfl, g1, g2, ?_⟩
    rw [drop_at f1, drop_at f2, apart_cons, if_pos g3] at hap
    exact hap
  · have hend : apartM x y = (x.drop k, y.drop k) := by
      rw [← hap]
      rcases Nat.lt_or_ge k x.length with g1 | g1
      · rcases Nat.lt_or_ge k y.length with g2 | g2
        · have f1 : x[k]? = some (x.getD k 0) := by rw [List.getD_eq_getElem?_getD, List.getElem?_eq_getElem g1]; rfl
          have f2 : y[k]? = some (y.getD k 0) := by rw [List.getD_eq_getElem?_getD, List.getElem?_eq_getElem g2]; rfl
          have g3 : ¬ (x.getD k 0 = y.getD k 0) := fun g3 => by
            have h1 : decide ((k : Int) < (x.length : Int)) = true := decide_eq_true (by omega)
            have h2 : decide ((k : Int) < (y.length : Int)) = true := decide_eq_true (by omega)
            rw [h1, h2, g3] at hb
            simp at hb
          rw [drop_at f1, drop_at f2, apart_cons, if_neg g3]
        · rw [List.drop_eq_nil_of_le g2, apart_nil_r]
      · rw [List.drop_eq_nil_of_le g1, apart_nil_l]
    rw [hend] at q
    exact s_retU (eu_tup (ea_cons (ev_slS (x := x) (lo := some (k : Int)) (hi := none) (ev_var rfl) (eo_some (ev_var rfl)) eo_none (small (by omega)) cutS_from) (ea_cons (ev_slS (x := y) (lo := some (k : Int)) (hi := none) (ev_var rfl) (eo_some (ev_var rfl)) eo_none (small (by omega)) cutS_from) ea_nil)) len2) fun p H3 np e3 h3 => q p H3 (fresh_back (e.trans e2) np) ((e.trans e2).trans e3) h3
theorem spu_apart {x y : Tx} {H : Hp} (hx : x.length ≤ 40000) (hy : y.length ≤ 40000) : SpU spApart [st x, st y] H [st (apartM x y).1, st (apartM x y).2] := spu_of fun H1 e Q E q => ⟨x, y, rfl, hx, hy, q⟩

/-! ### parts_here -/
def NdV (H : Hp) (v : V) (nd : Nd) : Prop := ∃ a s t, v = .ref a ∧ Rd H a (.tup [.ref s, .ref t, st nd.d, st nd.e]) ∧ Rd H s (.tup (nd.s.map MsV)) ∧ Rd H t (.tup (nd.t.map MsV))
theorem NdV.mono {H H' : Hp} {v : V} {nd : Nd} (e : Ex H H') (h : NdV H v nd) : NdV H' v nd := by
  obtain ⟨a, s, t, h1, h2, h3, h4⟩ := h
  exact ⟨a, s, t, h1, ex_rd e h2, ex_rd e h3, ex_rd e h4⟩
theorem sc_parts : FnScope ["one", "other", "node"] ["one", "other", "node"] (defScope (top 25)) := ⟨rfl, rfl, rfl, by decide +kernel, rfl, by decide +kernel, by decide +kernel⟩
structure NdOk (one other : List Od) (nd : Nd) : Prop where
  os : OkSs one nd.s
  ot : OkSs other nd.t
  ss : SgSs nd.s
  st : SgSs nd.t
  zd : nd.d.length ≤ 30000
  ze : nd.e.length ≤ 30000
structure Rows (H : Hp) (v u : V) (one other : List Od) : Prop where
  v1 : OdsV H v one
  v2 : OdsV H u other
  o1 : OkOs one
  o2 : OkOs other
  s1 : SgOs one
  s2 : SgOs other
  z1 : pow3 one ≤ 1000
  z2 : pow3 other ≤ 1000
theorem Rows.mono {H H' : Hp} {v u : V} {one other : List Od} (e : Ex H H') (h : Rows H v u one other) : Rows H' v u one other := { h with v1 := h.v1.mono e, v2 := h.v2.mono e }
def spParts : Sp := fun vs H Q _ => ∃ (v u n : V) (one other : List Od) (nd : Nd), vs = [v, u, n] ∧ Rows H v u one other ∧ NdV H n nd ∧ NdOk one other nd ∧ RetV (.bl (badN one other nd)) H Q
theorem ok_parts (F : At K mg 25 "parts_here") (DE : Df P w K mg base 4 "ended" ["orders", "states"] spEnded) : Df P w K mg base 5 "parts_here" ["one", "other", "node"] spParts := by
  refine Df.made (N := ["one", "other", "node"]) F sc_parts (fun _ _ _ _ _ _ us hl => match us, hl with | [_, _, _], _ => rfl) (fun vs H Q E h => ?_) (fun f cdv A outer s H vs Q E hr h => ?_)
  · obtain ⟨v, u, n, _, _, _, rfl, _⟩ := h; rfl
  refine ⟨_, pss_one (ps_ret (pe_cmpR op_ne (pe_op op_add_str (pe_ix ix_tup (pv 2) pe_int (fun _ _ => rfl)) (pe_df DE hr (by decide) (by rfl) (pa_cons (pv 0) (pa_cons (pe_ix ix_tup (pv 2) pe_int (fun _ _ => rfl)) pa_nil))))
    (pe_op op_add_str (pe_ix ix_tup (pv 2) pe_int (fun _ _ => rfl)) (pe_df DE hr (by decide) (by rfl) (pa_cons (pv 1) (pa_cons (pe_ix ix_tup (pv 2) pe_int (fun _ _ => rfl)) pa_nil)))) (nomark _))), ?_⟩
  obtain ⟨v, u, n, one, other, nd, rfl, R, ⟨a, s, t, rfl, ha, hs, ht⟩, N, q⟩ := h
  have z1 := psem_size one nd.s [] R.o1 N.os
  have z2 := psem_size other nd.t [] R.o2 N.ot
  have y1 := R.z1
  have y2 := R.z2
  have h1 := N.zd
  have h2 := N.ze
  have w1 : (endM one nd.s).length ≤ 2000 := by show (psemM one nd.s []).length ≤ 2000; simp only [List.length_nil] at z1; omega
  have w2 : (endM other nd.t).length ≤ 2000 := by show (psemM other nd.t []).length ≤ 2000; simp only [List.length_nil] at z2; omega
  refine s_ret (v := .bl (badN one other nd)) (ev_is (ev_op (ev_op (ev_ixT (i := 2) (ev_var rfl) ev_c ha rfl) (ev_call (ea_cons (ev_var rfl) (ea_cons (ev_ixT (i := 0) (ev_var rfl) ev_c ha rfl) ea_nil)) (spv_ended R.v1 ⟨s, rfl, hs⟩ R.o1 R.s1 N.os N.ss (by omega))) (rv_addS (a := nd.d) (b := endM one nd.s) (small (by omega))))
    (ev_op (ev_ixT (i := 3) (ev_var rfl) ev_c ha rfl) (ev_call (ea_cons (ev_var rfl) (ea_cons (ev_ixT (i := 1) (ev_var rfl) ev_c ha rfl) ea_nil)) (spv_ended R.v2 ⟨t, rfl, ht⟩ R.o2 R.s2 N.ot N.st (by omega))) (rv_addS (a := nd.e) (b := endM other nd.t) (small (by omega)))) rv_neS) ?_) q
  unfold badN
  simp
theorem spv_parts {v u n : V} {one other : List Od} {nd : Nd} {H : Hp} (R : Rows H v u one other) (N : NdV H n nd) (O : NdOk one other nd) : SpV spParts [v, u, n] H (.bl (badN one other nd)) := spv_of fun H1 e Q E q => ⟨v, u, n, one, other, nd, rfl, R.mono e, N.mono e, O, q⟩
end
end Ev
set_option Elab.async false
set_option linter.all false
set_option maxRecDepth 100000
set_option maxHeartbeats 4000000
namespace Ev
open PySem PySem.Spec PyProof.Rows L2 Evl
/-! ### a dict whose keys are tuples of tuples -/
mutual
/-- a value is a key -/
inductive KeyV (H : Hp) : NestedKey → V → Prop
  | non : KeyV H .none .non
  | num (i : Int) : KeyV H (.num i) (.int i)
  | text (x : Str) : KeyV H (.text x) (.str x)
  | tup {a : Addr} {xs : List V} {ks : List NestedKey} : Rd H a (.tup xs) → KeyVs H ks xs → KeyV H (.tup ks) (.ref a)
inductive KeyVs (H : Hp) : List NestedKey → List V → Prop
  | nil : KeyVs H [] []
  | cons {k : NestedKey} {v : V} {ks : List NestedKey} {vs : List V} : KeyV H k v → KeyVs H ks vs → KeyVs H (k :: ks) (v :: vs)
end
mutual
theorem KeyV.mono {H H' : Hp} (e : Ex H H') : ∀ (k : NestedKey) (v : V), KeyV H k v → KeyV H' k v
  | .none, _, h => by cases h; exact .non
  | .num i, _, h => by cases h; exact .num _
  | .text x, _, h => by cases h; exact .text _
  | .tup ks, _, h => by cases h with | tup h1 h2 => exact .tup (ex_rd e h1) (KeyVs.mono e ks _ h2)
theorem KeyVs.mono {H H' : Hp} (e : Ex H H') : ∀ (ks : List NestedKey) (vs : List V), KeyVs H ks vs → KeyVs H' ks vs
  | [], _, h => by cases h; exact .nil
  | k :: ks, _, h => by cases h with | cons h1 h2 => exact .cons (KeyV.mono e k _ h1) (KeyVs.mono e ks _ h2)
end
section
variable {P : Program} {w : World} {H : Hp} {h : Heap}
mutual
theorem KeyV.raw (ok : HOk P w H h) : ∀ (k : NestedKey) (v : V) (u : Value), KeyV H k v → RelV v u → NestedIs h k u
  | .none, _, _, x, r => by
    cases x
    cases r
    exact .none
  | .num i, _, _, x, r => by
    cases x
    obtain ⟨t, rfl⟩ := r
    exact .int _ _
  | .text y, _, _, x, r => by
    cases x
    obtain ⟨t, rfl⟩ := r
    exact .text _ _
  | .tup ks, _, _, x, r => by
    cases x with
    | tup h1 h2 =>
      obtain ⟨_, its, rv, o, ho, hc, n, hd⟩ := h1.ok ok
      cases r
      exact .tup ho hc hd (KeyVs.raw ok ks _ _ h2 (by simpa using rv))
theorem KeyVs.raw (ok : HOk P w H h) : ∀ (ks : List NestedKey) (vs : List V) (us : List Value), KeyVs H ks vs → Vals vs us → NestedAll h ks us
  | [], _, _, x, r => by cases x; cases r; exact .nil
  | k :: ks, _, _, x, r => by
    cases x with
    | cons h1 h2 => cases r with
      | cons r1 r2 => exact .cons (KeyV.raw ok k _ _ h1 r1) (KeyVs.raw ok ks _ _ h2 r2)
end
end
section
variable (P : Program) (w : World)
abbrev entN (x : NestedKey × Addr) : NestedKey × Addr × Value := (x.1, x.2, .bool true)
def dNφ (d : Addr) (xs : List (NestedKey × Addr)) (h : Heap) : Prop := (d == sysModules) = false ∧ ∃ o es ep, h.get? d = some o ∧ o.ExactDict ∧ o.data = .dict es ep ∧ es.toList = (xs.map entN).map (entryOfKey (nestedKind P w)) ∧ ((xs.map entN).map (·.1)).Nodup
def dN (d : Addr) (xs : List (NestedKey × Addr)) : HO := .ext (dNφ P w d xs)
/-- the dict at d has the keys of xs, all True -/
def KN (H : Hp) (d : Addr) (xs : List (NestedKey × Addr)) : Prop := H d = some (dN P w d xs) ∧ ∀ x ∈ xs, KeyV H x.1 (.ref x.2) ∧ x.1.depth ≤ 8
end
section
variable {P : Program} {w : World} {H H' : Hp} {h : Heap} {d : Addr} {xs : List (NestedKey × Addr)}
theorem KN.mono (e : Ex H H') (k : KN P w H d xs) : KN P w H' d xs := ⟨e _ _ k.1, fun x hx => ⟨KeyV.mono e _ _ (k.2 x hx).1, (k.2 x hx).2⟩⟩
theorem dN_ok (x : dNφ P w d xs h) : ObjOk P w H h d (dN P w d xs) := by
  obtain ⟨o, es, ep, ho, _⟩ := id x.2
  exact ⟨x, ⟨o, ho⟩, fun h1 h2 ⟨a, o, es, ep, h3, r⟩ k => ⟨a, o, es, ep, k _ h3, r⟩⟩
theorem dN_of (hd : (d == sysModules) = false) (hm : h.DictOfH (nestedKind P w) d (xs.map entN)) : dNφ P w d xs h := by
  obtain ⟨o, es, ep, ho, hc, hdat, he, _, hn⟩ := hm
  exact ⟨hd, o, es, ep, ho, hc, hdat, he, hn⟩
theorem KN.dict (ok : HOk P w H h) (k : KN P w H d xs) : (d == sysModules) = false ∧ h.DictOfH (nestedKind P w) d (xs.map entN) := by
  obtain ⟨x, _, _⟩ := ok _ _ k.1
  obtain ⟨hd, o, es, ep, ho, hc, hdat, he, hn⟩ := x
  refine ⟨hd, o, es, ep, ho, hc, hdat, he, fun y hy => ?_, hn⟩
  obtain ⟨z, hz, rfl⟩ := List.mem_map.mp hy
  exact ⟨KeyV.raw ok _ _ _ (k.2 z hz).1 rfl, (k.2 z hz).2⟩
theorem atKey_ent (xs : List (NestedKey × Addr)) (k : NestedKey) : (atKey (xs.map entN) k).isSome = xs.any fun z => decide (z.1 = k) := by
  rw [← any_pairsH]
  unfold pairsH
  rw [List.any_map, List.any_map]
  rfl
end
/-- {k: True} -/
def tDN1 (P : Program) (w : World) (tk : TE) : TE := fun σ H Q => ∀ p, H p = none → tk σ (upd H p (dN P w p [])) fun x H2 => H2 p = some (dN P w p []) ∧ ∃ a k, x = .ref a ∧ KeyV H2 k (.ref a) ∧ k.depth ≤ 8 ∧ Q (.ref p) (upd H2 p (dN P w p [(k, a)]))
def tNotInN (P : Program) (w : World) (ty td : TE) : TE := fun σ H Q => ty σ H fun y H1 => td σ H1 fun x H2 => ∃ d a xs k, x = .ref d ∧ y = .ref a ∧ KN P w H2 d xs ∧ KeyV H2 k (.ref a) ∧ k.depth ≤ 8 ∧ Q (.bl (!(xs.any fun z => decide (z.1 = k)))) H2
def sNPut (P : Program) (w : World) (td ty : TE) : TS := fun D σ H => td σ H fun x H2 => ty σ H2 fun y H3 => ∃ d a xs k, x = .ref d ∧ y = .ref a ∧ KN P w H3 d xs ∧ KeyV H3 k (.ref a) ∧ k.depth ≤ 8 ∧ (xs.any fun z => decide (z.1 = k)) = false ∧ xs.length < sizeLine ∧ D.nx σ (upd H3 d (dN P w d (xs ++ [(k, a)])))
section
variable {X : Cx} {td ty tk : TE} {o i e : Expr} {pos pos' : Pos} {j : Nat} {cp : Pos}
theorem pc_notInN (hu : X.A.units + 64 < cLine) (hi : PE X i ty) (ho : PE X o td) : PC X .NotIn i o (tNotInN X.prog X.w ty td) := by
  refine ⟨fun pins s σ H Q I h => thn (hi.run pins s σ H _ I h) fun iv s1 ⟨y, H1, I1, ry, q1⟩ => thn (ho.run pins s1 σ H1 _ I1 q1) fun u s2 ⟨x, H2, I2, rx, d, a, xs, k, ex, ey, kn, kv, kd, q2⟩ => ?_⟩
  subst ex ey
  cases rx
  cases ry
  obtain ⟨hd, dd⟩ := kn.dict I2.hok
  refine notIn_keyed (knd := nestedKind X.prog X.w) (show X.A.in1.units + 8 < cLine by show X.A.units + 1 + 8 < cLine; omega) ⟨KeyV.raw I2.hok _ _ _ kv rfl, kd⟩ hd ⟨_, dd, rfl⟩ ?_
  rw [valueAt_pairsH, Option.isSome_map, atKey_ent]
  exact ⟨.bl (!xs.any fun z => decide (z.1 = k)), H2, I2.tok _, rfl, q2⟩
theorem ps_nput (hu : X.A.units + 64 < cLine) (ho : PE X o td) (hi : PE X i ty) (hs : swapsWith (.Constant (.bool true) j cp) (some (.Subscript o i pos')) pos.line X.env = pure false := by rfl) :
    PS X (.Assign [.Subscript o i pos'] (.Constant (.bool true) j cp) pos) (sNPut X.prog X.w td ty) := by
  refine ⟨fun pins s σ H D I h => ?_⟩
  refine wpAny_Assign_Subscript (Constant_bool (thn (ho.run pins s σ H _ I h) fun u s2 ⟨x, H2, I2, rx, q2⟩ => thn (hi.run pins s2 σ H2 _ I2 q2) fun iv s3 ⟨y, H3, I3, ry, d, a, xs, k, ex, ey, kn, kv, kd, hn, hl, q⟩ => ?_)) hs
  subst ex ey
  cases rx
  cases ry
  obtain ⟨hd, dd⟩ := kn.dict I3.hok
  refine wpAny_setItem_heap (knd := nestedKind X.prog X.w) (hsz := by rw [List.length_map]; exact Nat.le_of_lt hl) (show X.A.in1.units + 8 < cLine by show X.A.units + 1 + 8 < cLine; omega) ⟨KeyV.raw I3.hok _ _ _ kv rfl, kd⟩ dd fun h' dd' hs' => ⟨σ, _, ?_, q⟩
  have es : storedH (xs.map entN) k a (.bool true) = (xs ++ [(k, a)]).map entN := by
    unfold storedH
    rw [atKey_ent, hn, List.map_append]
    rfl
  rw [es] at dd'
  have he : ∃ q, h'.get? d = some q := let ⟨q, _, _, hq, _⟩ := dd'; ⟨q, hq⟩
  exact d_write I3 (by rw [kn.1]; exact True.intro) hs' he (dN_ok (dN_of hd dd'))
theorem pe_dn1 (hu : X.A.units + 64 < cLine) (hk : PE X e tk) : PE X (.Dict [some e] [.Constant (.bool true) j cp] pos) (tDN1 X.prog X.w tk) := by
  refine ⟨fun pins s σ H Q I q => ?_⟩
  have hn := I.hok.fresh (Nat.le_refl s.heap.objs.size)
  have hb : (s.heap.objs.size == sysModules) = false := beq_eq_false_iff_ne.mpr (Ne.symm (Nat.ne_of_lt I.big))
  have I1 := I.laid (a := s.heap.objs.size) (o := dN X.prog X.w s.heap.objs.size []) (h' := s.heap.push { cls := .type "dict", data := .dict #[] }) (t' := s.toks) (fun _ _ q => Heap.get?_push_of_some _ q) (Nat.le_refl _) (dN_ok (dN_of hb (Heap.DictOfH.new s.heap)))
  rw [arm_eval_Dict, zip_pairTrees [some e] [.Constant (.bool true) j cp] X.env pos rfl rfl, dictDisplay_pairs _ (by intro h; cases h) (by show 1 < 17; decide)]
  refine wpAny_bind (wpAny_standAt (wpAny_bind ?_))
  unfold subDict
  refine wpAny_bind (wpAny_alloc ?_)
  refine wpAny_bind (wpAny_holding ?_)
  rw [if_pos (show (pairTrees [some e] [.Constant (.bool true) j cp] X.env pos).length ≤ 15 by show 1 ≤ 15; decide)]
  refine wpAny_bind (pairTrees_cons_walk (thn (hk.run pins _ σ _ _ I1 (q _ hn)) fun u s2 ⟨x, H2, I2, rx, e2, a, k, ex, kv, kd, q2⟩ => Constant_bool (pairTrees_nil_walk ?_)))
  subst ex
  cases rx
  obtain ⟨hd, dd⟩ := KN.dict (xs := []) I2.hok ⟨e2, fun _ h => nomatch h⟩
  refine wpAny_holding ?_
  rw [List.forIn_cons]
  refine wpAny_bind (wpAny_bind (wpAny_bind (wpAny_dictSet_heap (knd := nestedKind X.prog X.w) (hsz := Nat.zero_le _) (show X.A.units + 8 < cLine by omega) ⟨KeyV.raw I2.hok _ _ _ kv rfl, kd⟩ dd fun h' dd' hs' => wpAny_pure ?_)))
  show wpAny _ _ (pure PUnit.unit) _ _ _
  refine wpAny_pure (wpAny_pure (wpAny_pure (wpAny_pure ?_)))
  have he : ∃ q, h'.get? s.heap.objs.size = some q := let ⟨q, _, _, hq, _⟩ := dd'; ⟨q, hq⟩
  exact ⟨.ref s.heap.objs.size, _, d_write I2 (by rw [e2]; exact True.intro) hs' he (dN_ok (xs := [(k, a)]) (dN_of hb dd')), rfl, q2⟩
end
end Ev
set_option Elab.async false
set_option linter.all false
set_option maxRecDepth 100000
set_option maxHeartbeats 4000000
namespace Ev
open PySem PySem.Spec PyProof.Rows L2 Evl StX
section
variable {P : Program} {w : World} {K : PySem.W.Frag} {mg : Str → Option Value} {base : Heap}
/-! ### xs != [] -/
def rNeE (K : PySem.W.Frag) : R2 := fun x y H Q => ∃ a b xs, x = .ref a ∧ y = .ref b ∧ SqL K H a xs ∧ SqL K H b [] ∧ Q (.bl (!xs.isEmpty)) H
theorem op_neE {X : Cx} (hu : X.A.units + 64 < cLine) : OpR X (compareOp .NotEq) (rNeE X.K) := by
  intro pins s σ H x y v u Q I rx ry h
  obtain ⟨a, b, xs, rfl, rfl, h1, h2, q⟩ := h
  cases rx
  cases ry
  obtain ⟨its, r, pl, _⟩ := I.list h1
  obtain ⟨its2, r2, pl2, _⟩ := I.list h2
  cases r2
  have fin : ∀ b : Bool, (!xs.isEmpty) = b → EP X pins σ Q (.bool b) s := fun b e => ⟨.bl b, H, I, rfl, e ▸ q⟩
  cases xs with
  | nil =>
    cases r
    exact SeqAt.RcNeAt.lists (e := fun _ => true) pl.isList pl2.isList rfl (by omega) (fun j h1 _ => absurd h1 (Nat.not_lt_zero j)) _ _ _ _ (fin _ rfl)
  | cons x xs =>
    cases r with
    | cons r1 r2 => exact SeqAt.RcNeAt.lists_lengths pl.isList pl2.isList (by simp) (by omega) _ _ _ _ (fin _ rfl)
/-! ### tuples stay -/
def ExT (H H' : Hp) : Prop := ∀ a xs, Rd H a (.tup xs) → Rd H' a (.tup xs)
theorem Ex.t {H H' : Hp} (e : Ex H H') : ExT H H' := fun _ _ h => ex_rd e h
theorem ExT.trans {H H1 H2 : Hp} (a : ExT H H1) (b : ExT H1 H2) : ExT H H2 := fun x xs h => b x xs (a x xs h)
theorem ExT.mut {H : Hp} {d : Addr} {o : HO} (m : Mut (H d)) : ExT H (upd H d o) := fun a xs h => by
  have hne : a ≠ d := fun e => by
    subst e
    rcases h with h | ⟨ob, h⟩ <;> (rw [h] at m; exact m)
  rcases h with h | ⟨ob, h⟩
  · exact .inl (by rw [upd_ne hne]; exact h)
  · exact .inr ⟨ob, by rw [upd_ne hne]; exact h⟩
theorem NdV.t {H H' : Hp} {v : V} {nd : Nd} (e : ExT H H') (h : NdV H v nd) : NdV H' v nd := by
  obtain ⟨a, s, t, h1, h2, h3, h4⟩ := h
  exact ⟨a, s, t, h1, e _ _ h2, e _ _ h3, e _ _ h4⟩
mutual
theorem KeyV.t {H H' : Hp} (e : ExT H H') : ∀ (k : NestedKey) (v : V), KeyV H k v → KeyV H' k v
  | .none, _, h => by cases h; exact .non
  | .num i, _, h => by cases h; exact .num _
  | .text x, _, h => by cases h; exact .text _
  | .tup ks, _, h => by cases h with | tup h1 h2 => exact .tup (e _ _ h1) (KeyVs.t e ks _ h2)
theorem KeyVs.t {H H' : Hp} (e : ExT H H') : ∀ (ks : List NestedKey) (vs : List V), KeyVs H ks vs → KeyVs H' ks vs
  | [], _, h => by cases h; exact .nil
  | k :: ks, _, h => by cases h with | cons h1 h2 => exact .cons (KeyV.t e k _ h1) (KeyVs.t e ks _ h2)
end
theorem KN.t {H H' : Hp} {d : Addr} {xs : List (NestedKey × Addr)} (e : ExT H H') (hd : H' d = H d) (k : KN P w H d xs) : KN P w H' d xs := ⟨hd.trans k.1, fun x hx => ⟨KeyV.t e _ _ (k.2 x hx).1, (k.2 x hx).2⟩⟩
/-! ### nodes as keys -/
def keyMs : Ms → NestedKey
  | .txt t => .text (S t)
  | .num n => .num n
theorem keyMs_inj : ∀ {a b : Ms}, keyMs a = keyMs b → a = b
  | .txt a, .txt b, h => by
    have : S a = S b := NestedKey.text.inj h
    rw [S_inj this]
  | .num a, .num b, h => by
    have : (a : Int) = b := NestedKey.num.inj h
    congr 1
    omega
  | .txt a, .num b, h => nomatch h
  | .num a, .txt b, h => nomatch h
theorem keyMss_inj : ∀ {a b : List Ms}, a.map keyMs = b.map keyMs → a = b
  | [], [], _ => rfl
  | x :: a, y :: b, h => by
    rw [List.map_cons, List.map_cons, List.cons.injEq] at h
    rw [keyMs_inj h.1, keyMss_inj h.2]
  | [], _ :: _, h => nomatch h
  | _ :: _, [], h => nomatch h
def keyNd (nd : Nd) : NestedKey := .tup [.tup (nd.s.map keyMs), .tup (nd.t.map keyMs), .text (S nd.d), .text (S nd.e)]
theorem keyNd_inj {a b : Nd} (h : keyNd a = keyNd b) : a = b := by
  unfold keyNd at h
  have h1 := NestedKey.tup.inj h
  rw [List.cons.injEq, List.cons.injEq, List.cons.injEq, List.cons.injEq] at h1
  obtain ⟨h2, h3, h4, h5, _⟩ := h1
  cases a
  cases b
  rw [Nd.mk.injEq]
  exact ⟨keyMss_inj (NestedKey.tup.inj h2), keyMss_inj (NestedKey.tup.inj h3), S_inj (NestedKey.text.inj h4), S_inj (NestedKey.text.inj h5)⟩
theorem keyMs_v {H : Hp} : ∀ s : Ms, KeyV H (keyMs s) (MsV s)
  | .txt t => .text _
  | .num n => .num _
theorem keyMss_v {H : Hp} : ∀ ss : List Ms, KeyVs H (ss.map keyMs) (ss.map MsV)
  | [] => .nil
  | s :: ss => .cons (keyMs_v s) (keyMss_v ss)
theorem NdV.key {H : Hp} {v : V} {nd : Nd} (h : NdV H v nd) : KeyV H (keyNd nd) v := by
  obtain ⟨a, s, t, rfl, h2, h3, h4⟩ := h
  exact .tup h2 (.cons (.tup h3 (keyMss_v _)) (.cons (.tup h4 (keyMss_v _)) (.cons (.text _) (.cons (.text _) .nil))))
theorem depthMs (s : Ms) : (keyMs s).depth = 0 := by cases s <;> rfl
theorem depthMss : ∀ ss : List Ms, NestedKey.depthAll (ss.map keyMs) = 0
  | [] => rfl
  | s :: ss => by
    show max (keyMs s).depth (NestedKey.depthAll (ss.map keyMs)) = 0
    rw [depthMs, depthMss ss]
    rfl
theorem depthNd (nd : Nd) : (keyNd nd).depth ≤ 8 := by
  show max (NestedKey.depthAll (nd.s.map keyMs) + 1) (max (NestedKey.depthAll (nd.t.map keyMs) + 1) (max 0 (max 0 0))) + 1 ≤ 8
  rw [depthMss, depthMss]
  decide
/-- the known nodes -/
def KnV (P : Program) (w : World) (H : Hp) (d : Addr) (k : List Nd) : Prop := ∃ kas, KN P w H d kas ∧ kas.map (·.1) = k.map keyNd
theorem KnV.mono {H H' : Hp} {d : Addr} {k : List Nd} (e : Ex H H') (h : KnV P w H d k) : KnV P w H' d k := let ⟨kas, a, b⟩ := h; ⟨kas, a.mono e, b⟩
theorem KnV.t {H H' : Hp} {d : Addr} {k : List Nd} (e : ExT H H') (hd : H' d = H d) (h : KnV P w H d k) : KnV P w H' d k := let ⟨kas, a, b⟩ := h; ⟨kas, a.t e hd, b⟩
theorem any_key {kas : List (NestedKey × Addr)} {k : List Nd} (h : kas.map (·.1) = k.map keyNd) (nd : Nd) : (kas.any fun z => decide (z.1 = keyNd nd)) = decide (nd ∈ k) := by
  have e1 : (kas.any fun z => decide (z.1 = keyNd nd)) = (kas.map (·.1)).any fun z => decide (z = keyNd nd) := by rw [List.any_map]; rfl
  rw [e1, h, List.any_map, Bool.eq_iff_iff, List.any_eq_true, decide_eq_true_eq]
  constructor
  · rintro ⟨x, hx, e⟩
    have e2 : keyNd x = keyNd nd := by simpa using e
    rw [← keyNd_inj e2]
    exact hx
  · intro hx
    exact ⟨nd, hx, by simp⟩
section
variable {σ : L2.St} {H : Hp} {ta tb te td ty : TE} {xs : List V} {D : Ends} {tu tz : TS}
theorem ev_notInN {d a : Addr} {k : List Nd} {nd : Nd} (h1 : Ev ty σ H (.ref a)) (h2 : Ev td σ H (.ref d)) (hk : KnV P w H d k) (hn : NdV H (.ref a) nd) : Ev (tNotInN P w ty td) σ H (.bl (!decide (nd ∈ k))) := fun H1 e Q q =>
  h1 H1 e _ fun H2 e2 => h2 H2 (e.trans e2) _ fun H3 e3 => by
    obtain ⟨kas, kn, ek⟩ := hk.mono ((e.trans e2).trans e3)
    refine ⟨d, a, kas, keyNd nd, rfl, rfl, kn, (hn.mono ((e.trans e2).trans e3)).key, depthNd nd, ?_⟩
    rw [any_key ek]
    exact q H3 (e2.trans e3)
theorem q_nput {d a : Addr} {k : List Nd} {nd : Nd} (h1 : Ev td σ H (.ref d)) (h2 : Ev ty σ H (.ref a)) (hk : KnV P w H d k) (hn : NdV H (.ref a) nd) (hin : nd ∉ k) (hz : k.length < sizeLine)
    (q : ∀ H1 o, Ex H H1 → Mut (H1 d) → KnV P w (upd H1 d o) d (k ++ [nd]) → tz D σ (upd H1 d o)) : tSeq (sNPut P w td ty) tz D σ H :=
  h1 H (Ex.refl H) _ fun H2 e2 => h2 H2 e2 _ fun H3 e3 => by
    obtain ⟨kas, kn, ek⟩ := hk.mono (e2.trans e3)
    have hm : Mut (H3 d) := by rw [kn.1]; exact True.intro
    have hn3 := hn.mono (e2.trans e3)
    have el : kas.length = k.length := by have := congrArg List.length ek; simpa using this
    refine ⟨d, a, kas, keyNd nd, rfl, rfl, kn, hn3.key, depthNd nd, ?_, by rw [el]; exact hz, q H3 _ (e2.trans e3) hm ⟨kas ++ [(keyNd nd, a)], ⟨upd_same, fun x hx => ?_⟩, ?_⟩⟩
    · rw [any_key ek]
      exact decide_eq_false hin
    · rcases List.mem_append.mp hx with hx | hx
      · exact ⟨KeyV.t (ExT.mut hm) _ _ (kn.2 x hx).1, (kn.2 x hx).2⟩
      · rw [List.mem_singleton.mp hx]
        exact ⟨KeyV.t (ExT.mut hm) _ _ hn3.key, depthNd nd⟩
    · rw [List.map_append, ek, List.map_append]
      rfl
theorem q_dn1 {a : Addr} {nd : Nd} {i : Nat} (h : ∀ H1, Ex H H1 → Ev te σ H1 (.ref a)) (hn : NdV H (.ref a) nd) (q : ∀ p H1, H p = none → Ex H H1 → KnV P w H1 p [nd] → tz D (σ.set i (some (.ref p))) H1) : tSeq (tAsg (tDN1 P w te) (gName i)) tz D σ H := fun p hp =>
  h _ (Ex.new hp) _ (Ex.refl _) _ fun H2 e2 => by
    have hm : H2 p = some (dN P w p []) := e2 _ _ upd_same
    have hM : Mut (H2 p) := by rw [hm]; exact True.intro
    have e02 : Ex H H2 := (Ex.new hp).trans e2
    refine ⟨hm, a, keyNd nd, rfl, (hn.mono e02).key, depthNd nd, q p _ hp (e02.mut hp) ⟨[(keyNd nd, a)], ⟨upd_same, fun x hx => ?_⟩, rfl⟩⟩
    rw [List.mem_singleton.mp hx]
    exact ⟨KeyV.t (ExT.mut hM) _ _ (hn.mono e02).key, depthNd nd⟩
theorem ea_star {t : TA} {xs ys : List V} (h : EvU te σ H xs) (h2 : EvA t σ H ys) : EvA (tStar K te t) σ H (xs ++ ys) := fun H1 e Q q =>
  h H1 e _ fun p H2 _ e2 hp => ⟨p, xs, rfl, .inl (st_of hp), h2 H2 (e.trans e2) _ fun H3 e3 => q H3 (e2.trans e3)⟩
/-- name = [(..)] -/
theorem q_asgLU {i : Nat} {xs : List V} (h : EvU te σ H xs) (q : ∀ p t H1, H p = none → Ex H H1 → H1 p = some (.lst [.ref t]) → H1 t = some (.tup xs) → tz D (σ.set i (some (.ref p))) H1) : tSeq (tAsg (tLst (tCons te tNil)) (gName i)) tz D σ H :=
  h H (Ex.refl H) _ fun t H2 ht e2 h2 => ⟨Nat.le_of_ble_eq_true rfl, fun p hp => q p t _ (fresh_back e2 hp) (e2.trans (Ex.new hp)) upd_same (Ex.new hp _ _ h2)⟩
/-- xs.append((..)) -/
theorem s_appUZ {l : Addr} {xs ys : List V} (hl : H l = some (.lst xs)) (ha : Ev ta σ H (.ref l)) (h : EvU te σ H ys) (hz : xs.length < sizeLine) (k : ∀ p H1, H p = none → Ex H H1 → H1 p = some (.tup ys) → D.nx σ (upd H1 l (.lst (xs ++ [.ref p])))) :
    tDrop (tBM K "list" rAppend ta (tCons te tNil)) D σ H := ha H (Ex.refl H) _ fun H1 e1 =>
  ⟨Or.inl ⟨rfl, xs, sq_of (e1 l _ hl)⟩, h H1 e1 _ fun p H2 hp e2 h2 => ⟨l, xs, .ref p, rfl, rfl, e2 l _ (e1 l _ hl), hz, k p H2 (fresh_back e1 hp) (e1.trans e2) h2⟩⟩
theorem ev_neE {a : Addr} {xs : List V} (h : Ev ta σ H (.ref a)) (hx : Rd H a (.lst xs)) : Ev (tOp (rNeE K) ta (tLst tNil)) σ H (.bl (!xs.isEmpty)) :=
  ev_opL h (el_lst ea_nil (Nat.zero_le _)) fun p H1 hp e H2 e2 Q q => ⟨a, p, xs, rfl, rfl, rd_l (ex_rd (e.trans e2) hx), sq_of (e2 _ _ hp), q H2 (Ex.refl H2)⟩
end
/-! ### first_unlike -/
def rV : Option Tx → V
  | none => .non
  | some x => st x
def OdsL (H : Hp) (v : V) (os : List Od) : Prop := ∃ a vs, v = .ref a ∧ H a = some (.lst vs) ∧ Paired (OdV H) vs os
theorem OdsL.odsV {H : Hp} {v : V} {os : List Od} (h : OdsL H v os) : OdsV H v os := let ⟨a, vs, h1, h2, h3⟩ := h; ⟨a, vs, h1, .inl h2, h3⟩
theorem OdsL.mono {H H' : Hp} {v : V} {os : List Od} (e : Ex H H') (h : OdsL H v os) : OdsL H' v os := by
  obtain ⟨a, vs, h1, h2, h3⟩ := h
  exact ⟨a, vs, h1, e _ _ h2, L2.Paired.mapP h3 fun x y z => z.mono e⟩
/-- two rows of orders, small enough -/
structure Two (one other : List Od) : Prop where
  o1 : OkOs one
  o2 : OkOs other
  s1 : SgOs one
  s2 : SgOs other
  z1 : pow3 one ≤ 1000
  z2 : pow3 other ≤ 1000
  nn : nn one * nn other ≤ 8000000
theorem Two.rows {H : Hp} {v u : V} {one other : List Od} (T : Two one other) (h1 : OdsV H v one) (h2 : OdsV H u other) : Rows H v u one other := ⟨h1, h2, T.o1, T.o2, T.s1, T.s2, T.z1, T.z2⟩
/-- concatenation of two rows -/
theorem paired_app {α β : Type} {R : α → β → Prop} {xs ys : List α} {as bs : List β} (h : Paired R xs as) (k : Paired R ys bs) : Paired R (xs ++ ys) (as ++ bs) := by
  induction h with
  | nil => exact k
  | cons r t ih => exact .cons r ih
section
variable {σ : L2.St} {H : Hp} {ta tb te : TE}
/-- a new row of orders -/
def EvR (te : TE) (σ : L2.St) (H : Hp) (os : List Od) : Prop := ∀ H1, Ex H H1 → ∀ Q : VK, (∀ v H2, Ex H1 H2 → OdsL H2 v os → Q v H2) → te σ H1 Q
theorem er_var {i : Nat} {v : V} {os : List Od} (h : σ[i]? = some (some v)) (hv : OdsL H v os) : EvR (tVar i) σ H os := fun H1 e Q q => ⟨v, h, q v H1 (Ex.refl H1) (hv.mono e)⟩
theorem er_nil : EvR (tLst tNil) σ H [] := fun H1 e Q q => ⟨Nat.zero_le _, fun p hp => q _ _ (Ex.new hp) ⟨p, [], rfl, upd_same, .nil⟩⟩
theorem er_cat {os ps : List Od} (h1 : EvR ta σ H os) (h2 : EvR tb σ H ps) (hz : os.length + ps.length ≤ 1000) : EvR (tOp rCat ta tb) σ H (os ++ ps) := fun H1 e Q q =>
  h1 H1 e _ fun x H2 e2 hx => h2 H2 (e.trans e2) _ fun y H3 e3 hy => by
    obtain ⟨a, vs, rfl, ha, hp⟩ := hx.mono e3
    obtain ⟨b, us, rfl, hb, hq⟩ := hy
    refine ⟨a, b, vs, us, rfl, rfl, ha, hb, ?_, fun p hpn => q _ _ ((e2.trans e3).trans (Ex.new hpn)) ⟨p, vs ++ us, rfl, upd_same, ?_⟩⟩
    · rw [paired_len hp, paired_len hq]
      exact Nat.le_trans hz (by decide)
    · exact paired_app (L2.Paired.mapP hp fun _ _ z => z.mono (Ex.new hpn)) (L2.Paired.mapP hq fun _ _ z => z.mono (Ex.new hpn))
end
def PV (H : Hp) (v : V) (p : Tx × Nd) : Prop := ∃ a n, v = .ref a ∧ Rd H a (.tup [st p.1, n]) ∧ NdV H n p.2
theorem PV.t {H H' : Hp} {v : V} {p : Tx × Nd} (e : ExT H H') (h : PV H v p) : PV H' v p := let ⟨a, n, h1, h2, h3⟩ := h; ⟨a, n, h1, e _ _ h2, h3.t e⟩
def LayV (H : Hp) (a : Addr) (l : Lay) : Prop := ∃ xs, H a = some (.lst xs) ∧ Paired (PV H) xs l
theorem LayV.t {H H' : Hp} {a : Addr} {l : Lay} (e : ExT H H') (ha : H' a = H a) (h : LayV H a l) : LayV H' a l := let ⟨xs, h1, h2⟩ := h; ⟨xs, ha.trans h1, L2.Paired.mapP h2 fun _ _ z => z.t e⟩
theorem LayV.mono {H H' : Hp} {a : Addr} {l : Lay} (e : Ex H H') (h : LayV H a l) : LayV H' a l := let ⟨xs, h1, h2⟩ := h; ⟨xs, e _ _ h1, L2.Paired.mapP h2 fun _ _ z => z.t (Ex.t e)⟩
theorem len_pow3s : ∀ (os : List Od), pow3 os ≤ 1000 → os.length ≤ 6
  | [], _ => Nat.zero_le _
  | [_], _ => by simp
  | [_, _], _ => by simp
  | [_, _, _], _ => by simp
  | [_, _, _, _], _ => by simp
  | [_, _, _, _, _], _ => by simp
  | [_, _, _, _, _, _], _ => by simp
  | _ :: _ :: _ :: _ :: _ :: _ :: _ :: r, h => by
    have h1 := pow3_pos r
    have h2 : 3 * (3 * (3 * (3 * (3 * (3 * (3 * pow3 r)))))) ≤ 1000 := h
    omega
theorem apart_len (x y : Tx) : (apartM x y).1.length ≤ x.length ∧ (apartM x y).2.length ≤ y.length := by
  obtain ⟨p, h1, h2⟩ := apart_pre x y
  have e1 := congrArg List.length h1
  have e2 := congrArg List.length h2
  rw [List.length_append] at e1 e2
  omega
section
variable {one other : List Od}
theorem start_ok (T : Two one other) : NdOk one other (startN one other) ∧ (begM one []).2.length ≤ 2000 ∧ (begM other []).2.length ≤ 2000 := by
  have b1 := beg_size one [] T.o1
  have b2 := beg_size other [] T.o2
  have z1 := T.z1
  have z2 := T.z2
  simp only [List.length_nil] at b1 b2
  have a := apart_len (begM one []).2 (begM other []).2
  have y1 : (begM one []).2.length ≤ 2000 := by omega
  have y2 : (begM other []).2.length ≤ 2000 := by omega
  exact ⟨⟨okSs_beg one [] T.o1, okSs_beg other [] T.o2, (sg_beg one [] T.s1 AllSg.nil).1, (sg_beg other [] T.s2 AllSg.nil).1, Nat.le_trans a.1 (by omega), Nat.le_trans a.2 (by omega)⟩, y1, y2⟩
theorem rn_ok (T : Two one other) {x : Nd} (h : RN one other x) : NdOk one other x ∧ x.d.length ≤ 2000 ∧ x.e.length ≤ 2000 := by
  have z := rn_size T.o1 T.o2 h
  obtain ⟨w, hw, ew, bw⟩ := h
  have a := says_run T.o1 T.o2 w
  have g := sg_run T.s1 T.s2 w hw
  rw [ew] at a g
  have z1 := T.z1
  have z2 := T.z2
  exact ⟨⟨a.os, a.ot, g.1, g.2, by omega, by omega⟩, by omega, by omega⟩
theorem step_ok (T : Two one other) {x : Nd} (h : RN one other x) {c : Nat} (hc : c ∈ SG) : NdOk one other (stepN one other x c) ∧ (x.d ++ (pushM one x.s [c]).2).length ≤ 4000 ∧ (x.e ++ (pushM other x.t [c]).2).length ≤ 4000 := by
  obtain ⟨o, zd, ze⟩ := rn_ok T h
  have p1 := push_size one x.s [c] T.o1 o.os
  have p2 := push_size other x.t [c] T.o2 o.ot
  have z1 := T.z1
  have z2 := T.z2
  simp only [List.length_cons, List.length_nil] at p1 p2
  have a := apart_len (x.d ++ (pushM one x.s [c]).2) (x.e ++ (pushM other x.t [c]).2)
  have y1 : (x.d ++ (pushM one x.s [c]).2).length ≤ 4000 := by rw [List.length_append]; omega
  have y2 : (x.e ++ (pushM other x.t [c]).2).length ≤ 4000 := by rw [List.length_append]; omega
  exact ⟨⟨okSs_push one x.s [c] T.o1 o.os, okSs_push other x.t [c] T.o2 o.ot, (sg_push one x.s [c] T.s1 o.ss (AllSg.one hc)).1, (sg_push other x.t [c] T.s2 o.st (AllSg.one hc)).1, Nat.le_trans a.1 (by omega), Nat.le_trans a.2 (by omega)⟩, y1, y2⟩
theorem rn_step {x : Nd} (h : RN one other x) {c : Nat} (hc : c ∈ SG) (hb : badN one other (stepN one other x c) = false) : RN one other (stepN one other x c) := by
  obtain ⟨w, hw, ew, bw⟩ := h
  exact ⟨w ++ [c], hw.app (AllSg.one hc), by rw [run_snoc, ew], hb⟩
end
theorem g2_ofR {i j : Nat} {σ : L2.St} {H : Hp} {p : Addr} {a b : V} {Q : L2.St → Hp → Prop} (h : Rd H p (.tup [a, b])) (q : Q ((σ.set i (some a)).set j (some b)) H) : g2 K i j (.ref p) σ H Q :=
  ⟨p, [a, b], rfl, rd_t h, rfl, a, [b], rfl, b, [], rfl, rfl, q⟩
abbrev sgV (l : Tx) : List V := l.map fun c => st [c]
theorem sc_first : FnScope ["one", "other", "states", "out", "others", "more", "node", "known", "layer", "signs", "further", "line", "sign", "after"] ["one", "other"] (defScope (top 26)) := ⟨rfl, rfl, rfl, by decide +kernel, rfl, by decide +kernel, by decide +kernel⟩
def spFirst : Sp := fun vs H Q _ => ∃ (v u : V) (one other : List Od) (r : Option Tx), vs = [v, u] ∧ OdsL H v one ∧ OdsL H u other ∧ Two one other ∧ fuM one other = some r ∧ RetV (rV r) H Q
theorem ok_first (F : At K mg 26 "first_unlike") (G : Gb mg) (DB : Df P w K mg base 4 "begun" ["orders"] spBegun) (DA : Df P w K mg base 1 "apart" ["one", "other"] spApart) (DP : Df P w K mg base 5 "parts_here" ["one", "other", "node"] spParts)
    (DS : Df P w K mg base 2 "signs_for" ["orders", "word", "more"] spSignsFor) (DU : Df P w K mg base 4 "pushed" ["orders", "states", "sign"] spPushed) : Df P w K mg base 6 "first_unlike" ["one", "other"] spFirst := by
  refine Df.made (N := ["one", "other", "states", "out", "others", "more", "node", "known", "layer", "signs", "further", "line", "sign", "after"]) F sc_first (fun _ _ _ _ _ _ us hl => match us, hl with | [_, _], _ => rfl) (fun vs H Q E h => ?_) (fun f cdv A outer s H vs Q E hr h => ?_)
  · obtain ⟨v, u, _, _, _, rfl, _⟩ := h; rfl
  refine ⟨_, pss_cons (ps_asg (g := g2 K 2 3) (pe_df DB hr (by decide) (by rfl) (pa_cons (pv 0) pa_nil)) (pg_tup rfl (pgs_cons (pg_name (i := 2) sc_first.nd rfl (.inl rfl)) (pgs_cons (pg_name (i := 3) sc_first.nd rfl (.inl rfl)) pgs_nil))))
    (pss_cons (ps_asg (g := g2 K 4 5) (pe_df DB hr (by decide) (by rfl) (pa_cons (pv 1) pa_nil)) (pg_tup rfl (pgs_cons (pg_name (i := 4) sc_first.nd rfl (.inl rfl)) (pgs_cons (pg_name (i := 5) sc_first.nd rfl (.inl rfl)) pgs_nil))))
    (pss_cons (ps_set (i := 6) sc_first.nd rfl (.inl rfl) (pe_tup (pa_cons (pv 2) (pa_cons (pv 4) (pa_star (pe_df DA hr (by decide) (by rfl) (pa_cons (pv 3) (pa_cons (pv 5) pa_nil))) pa_nil)))))
    (pss_cons (ps_if (pt_val (pe_df DP hr (by decide) (by rfl) (pa_cons (pv 0) (pa_cons (pv 1) (pa_cons (pv 6) pa_nil))))) (pss_one (ps_ret pe_str)) pss_nil)
    (pss_cons (ps_set (i := 7) sc_first.nd rfl (.inl rfl) (pe_dn1 hr.units (pv 6)))
    (pss_cons (ps_set (i := 8) sc_first.nd rfl (.inl rfl) (pe_lst (pa_cons (pe_tup (pa_cons pe_str (pa_cons (pv 6) pa_nil))) pa_nil)))
    (pss_cons (ps_set (i := 9) sc_first.nd rfl (.inl rfl) (pe_df DS hr (by decide) (by rfl) (pa_cons (pe_op op_cat (pv 0) (pv 1)) (pa_cons pe_str (pa_cons pe_int pa_nil)))))
    (pss_cons (ps_while PassesOwn.never (pt_cmpR (op_neE hr.units) (pv 8) (pe_lst pa_nil) (nomark _))
      (pss_cons (ps_set (i := 10) sc_first.nd rfl (.inl rfl) (pe_lst pa_nil))
      (pss_cons (ps_for (g := g2 K 11 6) PassesOwn.never rfl (pi_list (pv 8)) (pg_tup rfl (pgs_cons (pg_name (i := 11) sc_first.nd rfl (.inl rfl)) (pgs_cons (pg_name (i := 6) sc_first.nd rfl (.inl rfl)) pgs_nil)))
        (pss_one (ps_for PassesOwn.never rfl (pi_list (pv 9)) (pg_name (i := 12) sc_first.nd rfl (.inl rfl))
          (pss_cons (ps_asg (g := g2 K 2 3) (pe_df DU hr (by decide) (by rfl) (pa_cons (pv 0) (pa_cons (pe_ix ix_tup (pv 6) pe_int (fun _ _ => rfl)) (pa_cons (pv 12) pa_nil)))) (pg_tup rfl (pgs_cons (pg_name (i := 2) sc_first.nd rfl (.inl rfl)) (pgs_cons (pg_name (i := 3) sc_first.nd rfl (.inl rfl)) pgs_nil))))
          (pss_cons (ps_asg (g := g2 K 4 5) (pe_df DU hr (by decide) (by rfl) (pa_cons (pv 1) (pa_cons (pe_ix ix_tup (pv 6) pe_int (fun _ _ => rfl)) (pa_cons (pv 12) pa_nil)))) (pg_tup rfl (pgs_cons (pg_name (i := 4) sc_first.nd rfl (.inl rfl)) (pgs_cons (pg_name (i := 5) sc_first.nd rfl (.inl rfl)) pgs_nil))))
          (pss_cons (ps_set (i := 13) sc_first.nd rfl (.inl rfl) (pe_tup (pa_cons (pv 2) (pa_cons (pv 4) (pa_star (pe_df DA hr (by decide) (by rfl) (pa_cons (pe_op op_add_str (pe_ix ix_tup (pv 6) pe_int (fun _ _ => rfl)) (pv 3)) (pa_cons (pe_op op_add_str (pe_ix ix_tup (pv 6) pe_int (fun _ _ => rfl)) (pv 5)) pa_nil))) pa_nil)))))
          (pss_cons (ps_if (pt_val (pe_df DP hr (by decide) (by rfl) (pa_cons (pv 0) (pa_cons (pv 1) (pa_cons (pv 13) pa_nil))))) (pss_one (ps_ret (pe_op op_add_str (pv 11) (pv 12)))) pss_nil)
          (pss_one (ps_if (pt_cmp (pc_notInN hr.units (pv 13) (pv 7)) (by rfl))
            (pss_cons (ps_nput hr.units (pv 7) (pv 13))
            (pss_one (ps_expr (pe_bm PySem.F.plainAttrs_list PySem.F.slot_list_append PySem.F.type_list_append mt_append (pv 10) (pa_cons (pe_tup (pa_cons (pe_op op_add_str (pv 11) (pv 12)) (pa_cons (pv 13) pa_nil))) pa_nil))))) pss_nil)))))))))
      (pss_one (ps_set (i := 8) sc_first.nd rfl (.inl rfl) (pv 10))))))
    (pss_one (ps_ret pe_non))))))))), ?_⟩
  obtain ⟨v, u, one, other, r, rfl, hv, hu, T, hfu, q⟩ := h
  have z1 := T.z1
  have z2 := T.z2
  have zn := T.nn
  have big : sizeLine = 16777216 := sizeLine_eq
  obtain ⟨ok0, y1, y2⟩ := start_ok T
  refine q_asgN (en_call (ea_cons (ev_var rfl) ea_nil) (spn_begun hv.odsV T.o1 T.s1 (by omega))) fun s0 H1 e1 hs0 => ?_
  refine q_asgN (en_call (ea_cons (ev_var rfl) ea_nil) (spn_begun (hu.mono e1).odsV T.o2 T.s2 (by omega))) fun t0 H2 e2 ht0 => ?_
  refine q_asgU (xs := [.ref s0, .ref t0, st (startN one other).d, st (startN one other).e]) (eu_tup (ea_cons (ev_var rfl) (ea_cons (ev_var rfl) (ea_star (eu_call (ea_cons (ev_var rfl) (ea_cons (ev_var rfl) ea_nil)) (spu_apart (by omega) (by omega))) ea_nil))) (Nat.le_of_ble_eq_true rfl)) fun a0 H3 na e3 ha0 => ?_
  have e03 := (e1.trans e2).trans e3
  have hn0 : NdV H3 (.ref a0) (startN one other) := ⟨a0, s0, t0, rfl, .inl ha0, .inl (e3 _ _ (e2 _ _ hs0)), .inl (e3 _ _ ht0)⟩
  refine q_when (b := badN one other (startN one other)) (et_B (ev_call (ea_cons (ev_var rfl) (ea_cons (ev_var rfl) (ea_cons (ev_var rfl) ea_nil))) (spv_parts (T.rows (hv.mono e03).odsV (hu.mono e03).odsV) hn0 ok0))) (fun hb H4 e4 => ?_) fun hb H4 e4 => ?_
  · have er : r = some [] := by
      unfold fuM fuS at hfu
      rw [if_pos hb] at hfu
      exact (Option.some.inj hfu).symm
    subst er
    exact s_ret ev_c fun H5 e5 => q H5 ((e03.trans e4).trans e5)
  have hlo : loopL one other (signsM (one ++ other) [] 2) (nn one * nn other + 1) [([], startN one other)] [startN one other] = some r := by
    unfold fuM fuS at hfu
    rw [if_neg (by rw [hb]; decide)] at hfu
    exact hfu
  have e04 := e03.trans e4
  refine q_dn1 (P := P) (w := w) (a := a0) (nd := startN one other) (fun H5 e5 => ev_var rfl) (hn0.mono e4) fun D H5 nD e5 hk5 => ?_
  have e05 := e04.trans e5
  refine q_asgLU (xs := [st [], .ref a0]) (eu_tup (ea_cons ev_c (ea_cons (ev_var rfl) ea_nil)) len2) fun L0 t1 H6 nL e6 hL0 ht1 => ?_
  have e06 := e05.trans e6
  have h1os : one.length + other.length ≤ 1000 ∧ one.length + other.length ≤ 100 := by
    have a := len_pow3s one z1
    have b := len_pow3s other z2
    omega
  refine er_cat (os := one) (ps := other) (er_var rfl (hv.mono e06)) (er_var rfl (hu.mono e06)) h1os.1 _ (Ex.refl _) _ fun vv H7 e7 hvv => ?_
  have hsf := spl_signsFor (H := H7) (x := []) (m := 2) hvv.odsV (T.o1.append T.o2) (Nat.zero_le _) (by rw [List.length_append]; exact h1os.2)
  refine hsf H7 (Ex.refl _) _ (fun Gd H8 nG e8 hG => ?_) E0
  have e08 := (e06.trans e7).trans e8
  have hsg := signs_sg (one ++ other) [] 2
  generalize signsM (one ++ other) [] 2 = signs at hlo hsg hG
  have nD0 : H D = none := fresh_back e04 nD
  have known_len : ∀ k : List Nd, k.Nodup → (∀ x ∈ k, RN one other x) → k.length ≤ 8000000 := fun k h1 h2 => Nat.le_trans (known_le T.o1 T.o2 T.s1 T.s2 k h1 h2) zn
  have overSg : ∀ w, Over signs w → AllSg w := fun w h c hc => hsg c (h c hc)
  refine q_while (fun m σ H' => ∃ (x2 x3 x4 x5 x6 x10 x11 x12 x13 : Option V) (L : Addr) (n : Nat) (layer : Lay) (known : List Nd),
      σ = [some v, some u, x2, x3, x4, x5, x6, some (.ref D), some (.ref L), some (.ref Gd), x10, x11, x12, x13] ∧ Ex H H' ∧ BI one other signs n layer known ∧ loopL one other signs m layer known = some r ∧ LayV H' L layer ∧ KnV P w H' D known ∧ H' Gd = some (.lst (sgV signs)))
    (nn one * nn other + 1)
    ⟨_, _, _, _, _, none, none, none, none, L0, 0, [([], startN one other)], [startN one other], rfl, e08, BI.start hb, hlo,
      ⟨[.ref t1], e8 _ _ (e7 _ _ hL0), .cons ⟨t1, .ref a0, rfl, .inl (e8 _ _ (e7 _ _ ht1)), hn0.mono ((((e4.trans e5).trans e6).trans e7).trans e8)⟩ .nil⟩, hk5.mono ((e6.trans e7).trans e8), hG⟩
    fun m σ H' ⟨x2, x3, x4, x5, x6, x10, x11, x12, x13, L, n, layer, known, hσ, e, B, hl, hlay, hkn, hg⟩ => ?_
  subst hσ
  obtain ⟨xs, hxs, hxp⟩ := hlay
  have hxl := paired_len hxp
  refine ⟨!xs.isEmpty, et_test (ev_neE (ev_var rfl) (.inl hxs)), fun hbb G1 g1 => ?_, fun hbb G1 g1 => ?_⟩
  · have hne : layer ≠ [] := fun z => by
      rw [z] at hxl
      have : xs = [] := List.eq_nil_of_length_eq_zero hxl
      rw [this] at hbb
      cases hbb
    obtain ⟨m', rfl, hR⟩ : ∃ m', m = m' + 1 ∧ (match layerL one other signs layer known [] with
        | .error w => some (some w)
        | .ok q => loopL one other signs m' q.2 q.1) = some r := by
      cases layer with
      | nil => exact absurd rfl hne
      | cons p ps => cases m with
        | zero => exact nomatch hl
        | succ m' => exact ⟨m', rfl, hl⟩
    have hkRN : ∀ x ∈ known, RN one other x := fun x hx => let ⟨w, a, b, c⟩ := B.kn x hx; ⟨w, overSg w a, b, c⟩
    refine ⟨fun σ2 H2 => ∃ m2, m2 < m' + 1 ∧ ∃ (x2 x3 x4 x5 x6 x10 x11 x12 x13 : Option V) (L : Addr) (n : Nat) (layer : Lay) (known : List Nd),
      σ2 = [some v, some u, x2, x3, x4, x5, x6, some (.ref D), some (.ref L), some (.ref Gd), x10, x11, x12, x13] ∧ Ex H H2 ∧ BI one other signs n layer known ∧ loopL one other signs m2 layer known = some r ∧ LayV H2 L layer ∧ KnV P w H2 D known ∧ H2 Gd = some (.lst (sgV signs)), fun _ _ h => h, ?_⟩
    refine q_asgL (el_lst ea_nil (Nat.zero_le _)) fun Fu G2 nF g2' hF => ?_
    have g02 := g1.trans g2'
    have nF0 : H Fu = none := fresh_back (e.trans g1) nF
    have FL : L ≠ Fu := ne_of_none (g1 _ _ hxs) nF
    have FG : Gd ≠ Fu := ne_of_none (g1 _ _ hg) nF
    have n8 : n + 1 ≤ 8000001 := by
      have := known_len known B.nd hkRN
      rcases B.lv with z | z
      · exact absurd z hne
      · omega
    refine q_forL (a := L) (xs := xs) (ev_var rfl) (rd_l (.inl (g2' _ _ (g1 _ _ hxs)))) (fun i σ H' => ∃ (x2 x3 x4 x5 x6 x11 x12 x13 : Option V) (k : List Nd) (f : Lay),
        σ = [some v, some u, x2, x3, x4, x5, x6, some (.ref D), some (.ref L), some (.ref Gd), some (.ref Fu), x11, x12, x13] ∧ Ex H H' ∧ H' L = some (.lst xs) ∧ Paired (PV H') xs layer ∧ KnV P w H' D k ∧ LayV H' Fu f ∧ H' Gd = some (.lst (sgV signs)) ∧
        layerL one other signs (layer.drop i) k f = layerL one other signs layer known [] ∧ k.Nodup ∧ (∀ x ∈ k, RN one other x) ∧ f.length ≤ k.length)
      (fun G3 g3 => ⟨x2, x3, x4, x5, x6, x11, x12, x13, known, [], rfl, (e.trans g02).trans g3, g3 _ _ (g2' _ _ (g1 _ _ hxs)), L2.Paired.mapP hxp fun _ _ z => z.t (Ex.t (g02.trans g3)), hkn.mono (g02.trans g3), ⟨[], g3 _ _ hF, .nil⟩, g3 _ _ (g2' _ _ (g1 _ _ hg)), rfl, B.nd, hkRN, Nat.zero_le _⟩)
      (fun i σ H' _ ⟨_, _, _, _, _, _, _, _, _, _, _, _, h, _⟩ => rd_l (.inl h))
      (fun i x σ H' hx ⟨x2, x3, x4, x5, x6, x11, x12, x13, k, f, hσ, eH, hL, hpv, hK, hFu, hGd, hly, hnd, hrn, hfk⟩ => ?_) (fun σ H' ⟨x2, x3, x4, x5, x6, x11, x12, x13, k, f, hσ, eH, hL, hpv, hK, hFu, hGd, hly, hnd, hrn, hfk⟩ => ?_)
    · subst hσ
      obtain ⟨p, hpi, ax, nv, rfl, hax, hnv⟩ := paired_get hpv hx
      refine g2_ofR hax ?_
      have hpm : p ∈ layer := List.mem_of_getElem? hpi
      have hprn : RN one other p.2 := hkRN _ (B.sub p hpm)
      obtain ⟨pl, po, pr⟩ := B.lay p hpm
      have hd := drop_at hpi
      rw [hd] at hly
      have hly' : (match signL one other p.1 p.2 signs k f with
        | .error w => .error w
        | .ok q => layerL one other signs (layer.drop (i + 1)) q.1 q.2) = layerL one other signs layer known [] := hly
      obtain ⟨okp, zd, ze⟩ := rn_ok T hprn
      refine s_forLn (a := Gd) (xs := sgV signs) (ev_var rfl) (rd_l (.inl hGd)) (fun j σ H' => ∃ (x2 x3 x4 x5 x12 x13 : Option V) (k' : List Nd) (f' : Lay),
        σ = [some v, some u, x2, x3, x4, x5, some nv, some (.ref D), some (.ref L), some (.ref Gd), some (.ref Fu), some (st p.1), x12, x13] ∧ Ex H H' ∧ H' L = some (.lst xs) ∧ Paired (PV H') xs layer ∧ NdV H' nv p.2 ∧ KnV P w H' D k' ∧ LayV H' Fu f' ∧ H' Gd = some (.lst (sgV signs)) ∧
        signL one other p.1 p.2 (signs.drop j) k' f' = signL one other p.1 p.2 signs k f ∧ k'.Nodup ∧ (∀ x ∈ k', RN one other x) ∧ f'.length ≤ k'.length)
        (fun G3 g3 => ⟨x2, x3, x4, x5, x12, x13, k, f, rfl, eH.trans g3, g3 _ _ hL, L2.Paired.mapP hpv fun _ _ z => z.t (Ex.t g3), hnv.mono g3, hK.mono g3, hFu.mono g3, g3 _ _ hGd, rfl, hnd, hrn, hfk⟩)
        (fun j σ H' _ ⟨_, _, _, _, _, _, _, _, _, _, _, _, _, _, _, h, _⟩ => rd_l (.inl h))
        (fun j y σ H' hy ⟨x2, x3, x4, x5, x12, x13, k', f', hσ, eH, hL, hpv, hnv, hK, hFu, hGd, hsl, hnd, hrn, hfk⟩ => ?_) (fun σ H' ⟨x2, x3, x4, x5, x12, x13, k', f', hσ, eH, hL, hpv, hnv, hK, hFu, hGd, hsl, hnd, hrn, hfk⟩ => ?_)
      · subst hσ
        obtain ⟨c, hcj, rfl⟩ : ∃ c, signs[j]? = some c ∧ y = st [c] := by
          rw [List.getElem?_map] at hy
          cases hc : signs[j]? with
          | none => rw [hc] at hy; cases hy
          | some c => rw [hc] at hy; cases hy; exact ⟨c, rfl, rfl⟩
        have hc : c ∈ SG := hsg c (List.mem_of_getElem? hcj)
        have hcs := drop_at hcj
        rw [hcs] at hsl
        have hsl' : (if badN one other (stepN one other p.2 c) then .error (p.1 ++ [c])
          else if stepN one other p.2 c ∈ k' then signL one other p.1 p.2 (signs.drop (j + 1)) k' f'
          else signL one other p.1 p.2 (signs.drop (j + 1)) (k' ++ [stepN one other p.2 c]) (f' ++ [(p.1 ++ [c], stepN one other p.2 c)])) = signL one other p.1 p.2 signs k f := hsl
        obtain ⟨oks, w1, w2⟩ := step_ok T hprn hc
        obtain ⟨an, sn, tn, rfl, han, hsn, htn⟩ := id hnv
        refine q_asgN (en_call (ea_cons (ev_var rfl) (ea_cons (ev_ixT (i := 0) (ev_var rfl) ev_c han rfl) (ea_cons (ev_var rfl) ea_nil))) (spn_pushed (u := [c]) (hv.mono eH).odsV ⟨sn, rfl, hsn⟩ T.o1 T.s1 okp.os okp.ss (AllSg.one hc) (by simp only [List.length_cons, List.length_nil]; omega))) fun s1 K1 k1 hs1 => ?_
        refine q_asgN (en_call (ea_cons (ev_var rfl) (ea_cons (ev_ixT (i := 1) (ev_var rfl) ev_c (ex_rd k1 han) rfl) (ea_cons (ev_var rfl) ea_nil))) (spn_pushed (u := [c]) (hu.mono (eH.trans k1)).odsV ⟨tn, rfl, ex_rd k1 htn⟩ T.o2 T.s2 okp.ot okp.st (AllSg.one hc) (by simp only [List.length_cons, List.length_nil]; omega))) fun t2 K2 k2 ht2 => ?_
        have k02 := k1.trans k2
        have han2 := ex_rd k02 han
        rw [List.length_append] at w1 w2
        refine q_asgU (xs := [.ref s1, .ref t2, st (stepN one other p.2 c).d, st (stepN one other p.2 c).e]) (eu_tup (ea_cons (ev_var rfl) (ea_cons (ev_var rfl) (ea_star (eu_call (ea_cons (ev_op (ev_ixT (i := 2) (ev_var rfl) ev_c han2 rfl) (ev_var rfl) (rv_addS (a := p.2.d) (b := (pushM one p.2.s [c]).2) (small (by omega)))) (ea_cons (ev_op (ev_ixT (i := 3) (ev_var rfl) ev_c han2 rfl) (ev_var rfl) (rv_addS (a := p.2.e) (b := (pushM other p.2.t [c]).2) (small (by omega)))) ea_nil)) (spu_apart (by rw [List.length_append]; omega) (by rw [List.length_append]; omega))) ea_nil))) (Nat.le_of_ble_eq_true rfl)) fun a2 K3 na2 k3 ha2 => ?_
        have k03 := k02.trans k3
        have hn2 : NdV K3 (.ref a2) (stepN one other p.2 c) := ⟨a2, s1, t2, rfl, .inl ha2, .inl (k3 _ _ (k2 _ _ hs1)), .inl (k3 _ _ ht2)⟩
        have eH3 := eH.trans k03
        refine q_when (b := badN one other (stepN one other p.2 c)) (et_B (ev_call (ea_cons (ev_var rfl) (ea_cons (ev_var rfl) (ea_cons (ev_var rfl) ea_nil))) (spv_parts (T.rows (hv.mono eH3).odsV (hu.mono eH3).odsV) hn2 oks))) (fun hbad K4 k4 => ?_) fun hbad K4 k4 => ?_
        · rw [if_pos hbad] at hsl'
          rw [← hsl'] at hly'
          rw [← hly'] at hR
          have er : r = some (p.1 ++ [c]) := (Option.some.inj hR).symm
          subst er
          exact s_ret (ev_op (ev_var rfl) (ev_var rfl) (rv_addS (a := p.1) (b := [c]) (by rw [pl, big]; simp only [List.length_cons, List.length_nil]; omega))) fun K5 k5 => q K5 ((eH3.trans k4).trans k5)
        · rw [if_neg (by rw [hbad]; decide)] at hsl'
          have k04 := k03.trans k4
          have hkl := known_len k' hnd hrn
          have DL : ∀ {G : Hp} {zs : List V} {a : Addr} {o : List Nd}, KnV P w G D o → G a = some (.lst zs) → a ≠ D := fun ⟨kas, kn, _⟩ ha => ne_of ha kn.1 (fun z => nomatch z)
          refine s_when (b := !decide (stepN one other p.2 c ∈ k')) (et_B (ev_notInN (ev_var rfl) (ev_var rfl) (hK.mono k04) (hn2.mono k4))) (fun hin K5 k5 => ?_) fun hin K5 k5 => ?_
          · have hin' : stepN one other p.2 c ∉ k' := by simpa using hin
            rw [if_neg hin'] at hsl'
            have k05 := k04.trans k5
            refine q_nput (P := P) (w := w) (d := D) (a := a2) (k := k') (nd := stepN one other p.2 c) (ev_var rfl) (ev_var rfl) (hK.mono k05) ((hn2.mono k4).mono k5) hin' (by rw [big]; omega) fun K6 o k6 hM hK6 => ?_
            have k06 := k05.trans k6
            obtain ⟨fs, hfs, hfp⟩ := hFu
            have hK0 := hK.mono k06
            have dL := DL hK0 (k06 _ _ hL)
            have dF := DL hK0 (k06 _ _ hfs)
            have dG := DL hK0 (k06 _ _ hGd)
            have et : ExT H' (upd K6 D o) := (Ex.t k06).trans (ExT.mut hM)
            have e0 : Ex H (upd K6 D o) := (eH.trans k06).mut nD0
            have fl := paired_len hfp
            refine s_appUZ (l := Fu) (xs := fs) (ys := [st (p.1 ++ [c]), .ref a2]) (by rw [upd_ne dF]; exact k06 _ _ hfs) (ev_var rfl) (eu_tup (ea_cons (ev_op (ev_var rfl) (ev_var rfl) (rv_addS (a := p.1) (b := [c]) (by rw [pl, big]; simp only [List.length_cons, List.length_nil]; omega))) (ea_cons (ev_var rfl) ea_nil)) len2) (by rw [big]; omega) fun b K7 nb k7 hb7 => ?_
            have hF7 : K7 Fu = some (.lst fs) := k7 _ _ (by rw [upd_ne dF]; exact k06 _ _ hfs)
            have hM7 : Mut (K7 Fu) := by rw [hF7]; exact True.intro
            have et7 : ExT H' (upd K7 Fu (.lst (fs ++ [.ref b]))) := (et.trans (Ex.t k7)).trans (ExT.mut hM7)
            have etK7 : ExT K7 (upd K7 Fu (.lst (fs ++ [.ref b]))) := ExT.mut hM7
            have hn7 : NdV K7 (.ref a2) (stepN one other p.2 c) := (((hn2.mono (k4.trans (k5.trans k6))).t (ExT.mut hM)).mono k7)
            have hKD := hK6.mono k7
            have hrn2 := rn_step hprn hc hbad
            refine ⟨_, _, _, _, _, _, k' ++ [stepN one other p.2 c], f' ++ [(p.1 ++ [c], stepN one other p.2 c)], rfl, (e0.trans k7).mut nF0, ?_, L2.Paired.mapP hpv fun _ _ z => z.t et7, hnv.t et7, hKD.t etK7 (upd_ne (Ne.symm (DL hKD hF7))), ⟨fs ++ [.ref b], upd_same, paired_app (L2.Paired.mapP hfp fun _ _ z => z.t et7) (.cons ⟨b, .ref a2, rfl, etK7 _ _ (.inl hb7), hn7.t etK7⟩ .nil)⟩, ?_, hsl', ?_, fun x hx => ?_, ?_⟩
            · rw [upd_ne FL]
              exact k7 _ _ (by rw [upd_ne dL]; exact k06 _ _ hL)
            · rw [upd_ne FG]
              exact k7 _ _ (by rw [upd_ne dG]; exact k06 _ _ hGd)
            · rw [List.nodup_append]
              refine ⟨hnd, by simp, fun a ha b hb => ?_⟩
              rw [List.mem_singleton.mp hb]
              exact fun e => hin' (e ▸ ha)
            · rcases List.mem_append.mp hx with hx | hx
              · exact hrn x hx
              · rw [List.mem_singleton.mp hx]; exact hrn2
            · rw [List.length_append, List.length_append]
              simp only [List.length_cons, List.length_nil]
              omega
          · have hin' : stepN one other p.2 c ∈ k' := by simpa using hin
            rw [if_pos hin'] at hsl'
            have k05 := k04.trans k5
            exact ⟨_, _, _, _, _, _, k', f', rfl, eH.trans k05, k05 _ _ hL, L2.Paired.mapP hpv fun _ _ z => z.t (Ex.t k05), hnv.mono k05, hK.mono k05, hFu.mono k05, k05 _ _ hGd, hsl', hnd, hrn, hfk⟩
      · subst hσ
        have hle : (sgV signs).length = signs.length := List.length_map _
        rw [hle, List.drop_length] at hsl
        rw [← hsl] at hly'
        exact ⟨_, _, _, _, _, _, _, _, k', f', rfl, eH, hL, hpv, hK, hFu, hGd, hly', hnd, hrn, hfk⟩
    · subst hσ
      rw [hxl, List.drop_length] at hly
      have hok : layerL one other signs layer known [] = .ok (k, f) := hly.symm
      rw [hok] at hR
      refine s_asg (ev_var rfl) fun G3 g3 => ⟨m', Nat.lt_succ_self m', _, _, _, _, _, _, _, _, _, Fu, n + 1, f, k, rfl, eH.trans g3, (B.next hne hok).1, hR, hFu.mono g3, hK.mono g3, g3 _ _ hGd⟩
  · have hnil : layer = [] := by
      cases xs with
      | nil => exact List.eq_nil_of_length_eq_zero hxl.symm
      | cons a b => cases hbb
    subst hnil
    have er : r = none := by cases m <;> exact (Option.some.inj hl).symm
    subst er
    exact s_ret ev_c fun G2 g2' => q G2 ((e.trans g1).trans g2')
theorem spv_first {v u : V} {one other : List Od} {r : Option Tx} {H : Hp} (hv : OdsL H v one) (hu : OdsL H u other) (T : Two one other) (h : fuM one other = some r) : SpV spFirst [v, u] H (rV r) :=
  spv_of fun H1 e Q E q => ⟨v, u, one, other, r, rfl, hv.mono e, hu.mono e, T, h, q⟩
end
end Ev
set_option Elab.async false
set_option linter.all false
set_option maxRecDepth 100000
set_option maxHeartbeats 4000000
namespace Ev
open PySem PySem.Spec PyProof.Rows L2 Evl StX
section
variable {P : Program} {w : World} {K : PySem.W.Frag} {mg : Str → Option Value} {base : Heap}
section
variable {σ : L2.St} {H : Hp} {ta tb te : TE}
theorem ev_first2 {os ps : List Od} {r : Option Tx} {E : XK} (h1 : EvR ta σ H os) (h2 : EvR tb σ H ps) (T : Two os ps) (h : fuM os ps = some r) : Ev (tCall spFirst [] E (tCons ta (tCons tb tNil))) σ H (rV r) := fun H1 e Q q =>
  h1 H1 e _ fun x H2 e2 hx => h2 H2 (e.trans e2) _ fun y H3 e3 hy => spv_first (hx.mono e3) hy T h H3 (Ex.refl H3) Q (fun H4 e4 => q H4 ((e2.trans e3).trans e4)) E
theorem rv_isNone {r : Option Tx} : RV rIsN (rV r) .non H (.bl (decide (r = none))) := fun H1 _ Q q => ⟨rfl, by
  have e : decide (rV r = V.non) = decide (r = none) := by cases r <;> rfl
  rw [e]
  exact q H1 (Ex.refl H1)⟩
end
theorem OkOs.left {a b : List Od} (h : OkOs (a ++ b)) : OkOs a := fun o ho => h o (List.mem_append_left _ ho)
theorem OkOs.right {a b : List Od} (h : OkOs (a ++ b)) : OkOs b := fun o ho => h o (List.mem_append_right _ ho)
theorem SgOs.left {a b : List Od} (h : SgOs (a ++ b)) : SgOs a := fun c hc => by
  obtain ⟨o, ho, hc⟩ := List.mem_flatMap.mp hc
  exact h c (List.mem_flatMap.mpr ⟨o, List.mem_append_left _ ho, hc⟩)
theorem SgOs.right {a b : List Od} (h : SgOs (a ++ b)) : SgOs b := fun c hc => by
  obtain ⟨o, ho, hc⟩ := List.mem_flatMap.mp hc
  exact h c (List.mem_flatMap.mpr ⟨o, List.mem_append_right _ ho, hc⟩)
theorem Two.cat {a b c : List Od} (T : Two (a ++ b) c) : a.length + b.length ≤ 1000 := by
  have := len_pow3s _ T.z1
  rw [List.length_append] at this
  omega
theorem Two.cat2 {a b c : List Od} (T : Two c (a ++ b)) : a.length + b.length ≤ 1000 := by
  have := len_pow3s _ T.z2
  rw [List.length_append] at this
  omega
theorem sc_Unlike : FnScope ["one", "other"] ["one", "other"] (defScope (top 27)) := ⟨rfl, rfl, rfl, by decide +kernel, rfl, by decide +kernel, by decide +kernel⟩
def spUnlike : Sp := fun vs H Q _ => ∃ (v u : V) (one other : List Od) (r : Option Tx), vs = [v, u] ∧ OdsL H v one ∧ OdsL H u other ∧ Two one other ∧ fuM one other = some r ∧ RetV (rV r) H Q
theorem ok_Unlike (F : At K mg 27 "unlike_line") (DC : Df P w K mg base 5 "check_orders" ["value"] spCheckO) (DF : Df P w K mg base 6 "first_unlike" ["one", "other"] spFirst) : Df P w K mg base 7 "unlike_line" ["one", "other"] spUnlike := by
  refine Df.made (N := ["one", "other"]) F sc_Unlike (fun _ _ _ _ _ _ us hl => match us, hl with | [_, _], _ => rfl) (fun vs H Q E h => ?_) (fun f cdv A outer s H vs Q E hr h => ?_)
  · obtain ⟨v, u, _, _, _, rfl, _⟩ := h; rfl
  refine ⟨_, pss_cons (ps_expr (pe_df DC hr (by decide) (by rfl) (pa_cons (pv 0) pa_nil))) (pss_cons (ps_expr (pe_df DC hr (by decide) (by rfl) (pa_cons (pv 1) pa_nil))) (pss_one (ps_ret (pe_df DF hr (by decide) (by rfl) (pa_cons (pv 0) (pa_cons (pv 1) pa_nil)))))), ?_⟩
  obtain ⟨v, u, one, other, r, rfl, hv, hu, T, hf, q⟩ := h
  refine q_drop (ev_call (ea_cons (ev_var rfl) ea_nil) (spv_checkO (hv.odsV) (T.o1) (T.s1))) fun H1 e1 => ?_
  refine q_drop (ev_call (ea_cons (ev_var rfl) ea_nil) (spv_checkO ((hu.mono e1).odsV) (T.o2) (T.s2))) fun H2 e2 => ?_
  exact s_ret (ev_first2 (er_var rfl (hv.mono (e1.trans e2))) (er_var rfl (hu.mono (e1.trans e2))) T hf) fun H3 e3 => q H3 ((e1.trans e2).trans e3)
theorem spv_Unlike {v u : V} {one other : List Od} {r : Option Tx} {H : Hp} (hv : OdsL H v one) (hu : OdsL H u other) (T : Two one other) (h : fuM one other = some r) : SpV spUnlike [v, u] H (rV r) :=
  spv_of fun H1 e Q E q => ⟨v, u, one, other, r, rfl, hv.mono e, hu.mono e, T, h, q⟩
theorem sc_Alike : FnScope ["one", "other"] ["one", "other"] (defScope (top 28)) := ⟨rfl, rfl, rfl, by decide +kernel, rfl, by decide +kernel, by decide +kernel⟩
def spAlike : Sp := fun vs H Q _ => ∃ (v u : V) (one other : List Od) (r : Option Tx), vs = [v, u] ∧ OdsL H v one ∧ OdsL H u other ∧ Two one other ∧ fuM one other = some r ∧ RetV (.bl (decide (r = none))) H Q
theorem ok_Alike (F : At K mg 28 "alike_lines") (DU : Df P w K mg base 7 "unlike_line" ["one", "other"] spUnlike) : Df P w K mg base 8 "alike_lines" ["one", "other"] spAlike := by
  refine Df.made (N := ["one", "other"]) F sc_Alike (fun _ _ _ _ _ _ us hl => match us, hl with | [_, _], _ => rfl) (fun vs H Q E h => ?_) (fun f cdv A outer s H vs Q E hr h => ?_)
  · obtain ⟨v, u, _, _, _, rfl, _⟩ := h; rfl
  refine ⟨_, pss_one (ps_ret (pe_cmpR op_isN1 (pe_df DU hr (by decide) (by rfl) (pa_cons (pv 0) (pa_cons (pv 1) pa_nil))) pe_non (nomark _))), ?_⟩
  obtain ⟨v, u, one, other, r, rfl, hv, hu, T, hf, q⟩ := h
  exact s_ret (ev_op (ev_call (ea_cons (ev_var rfl) (ea_cons (ev_var rfl) ea_nil)) (spv_Unlike hv hu T hf)) ev_c rv_isNone) q
theorem spv_Alike {v u : V} {one other : List Od} {r : Option Tx} {H : Hp} (hv : OdsL H v one) (hu : OdsL H u other) (T : Two one other) (h : fuM one other = some r) : SpV spAlike [v, u] H (.bl (decide (r = none))) :=
  spv_of fun H1 e Q E q => ⟨v, u, one, other, r, rfl, hv.mono e, hu.mono e, T, h, q⟩
theorem sc_Commute : FnScope ["one", "other"] ["one", "other"] (defScope (top 29)) := ⟨rfl, rfl, rfl, by decide +kernel, rfl, by decide +kernel, by decide +kernel⟩
def spCommute : Sp := fun vs H Q _ => ∃ (v u : V) (one other : List Od) (r : Option Tx), vs = [v, u] ∧ OdsL H v one ∧ OdsL H u other ∧ Two (one ++ other) (other ++ one) ∧ fuM (one ++ other) (other ++ one) = some r ∧ RetV (.bl (decide (r = none))) H Q
theorem ok_Commute (F : At K mg 29 "commute_lines") (DC : Df P w K mg base 5 "check_orders" ["value"] spCheckO) (DF : Df P w K mg base 6 "first_unlike" ["one", "other"] spFirst) : Df P w K mg base 7 "commute_lines" ["one", "other"] spCommute := by
  refine Df.made (N := ["one", "other"]) F sc_Commute (fun _ _ _ _ _ _ us hl => match us, hl with | [_, _], _ => rfl) (fun vs H Q E h => ?_) (fun f cdv A outer s H vs Q E hr h => ?_)
  · obtain ⟨v, u, _, _, _, rfl, _⟩ := h; rfl
  refine ⟨_, pss_cons (ps_expr (pe_df DC hr (by decide) (by rfl) (pa_cons (pv 0) pa_nil))) (pss_cons (ps_expr (pe_df DC hr (by decide) (by rfl) (pa_cons (pv 1) pa_nil))) (pss_one (ps_ret (pe_cmpR op_isN1 (pe_df DF hr (by decide) (by rfl) (pa_cons (pe_op op_cat (pv 0) (pv 1)) (pa_cons (pe_op op_cat (pv 1) (pv 0)) pa_nil))) pe_non (nomark _))))), ?_⟩
  obtain ⟨v, u, one, other, r, rfl, hv, hu, T, hf, q⟩ := h
  refine q_drop (ev_call (ea_cons (ev_var rfl) ea_nil) (spv_checkO (hv.odsV) (T.o1.left) (T.s1.left))) fun H1 e1 => ?_
  refine q_drop (ev_call (ea_cons (ev_var rfl) ea_nil) (spv_checkO ((hu.mono e1).odsV) (T.o1.right) (T.s1.right))) fun H2 e2 => ?_
  exact s_ret (ev_op (ev_first2 (er_cat (er_var rfl (hv.mono (e1.trans e2))) (er_var rfl (hu.mono (e1.trans e2))) T.cat) (er_cat (er_var rfl (hu.mono (e1.trans e2))) (er_var rfl (hv.mono (e1.trans e2))) T.cat2) T hf) ev_c rv_isNone) fun H3 e3 => q H3 ((e1.trans e2).trans e3)
theorem spv_Commute {v u : V} {one other : List Od} {r : Option Tx} {H : Hp} (hv : OdsL H v one) (hu : OdsL H u other) (T : Two (one ++ other) (other ++ one)) (h : fuM (one ++ other) (other ++ one) = some r) : SpV spCommute [v, u] H (.bl (decide (r = none))) :=
  spv_of fun H1 e Q E q => ⟨v, u, one, other, r, rfl, hv.mono e, hu.mono e, T, h, q⟩
theorem sc_Idle : FnScope ["orders"] ["orders"] (defScope (top 30)) := ⟨rfl, rfl, rfl, by decide +kernel, rfl, by decide +kernel, by decide +kernel⟩
def spIdle : Sp := fun vs H Q _ => ∃ (v : V) (one : List Od) (r : Option Tx), vs = [v] ∧ OdsL H v one ∧ Two one [] ∧ fuM one [] = some r ∧ RetV (.bl (decide (r = none))) H Q
theorem ok_Idle (F : At K mg 30 "idle_lines") (DC : Df P w K mg base 5 "check_orders" ["value"] spCheckO) (DF : Df P w K mg base 6 "first_unlike" ["one", "other"] spFirst) : Df P w K mg base 7 "idle_lines" ["orders"] spIdle := by
  refine Df.made (N := ["orders"]) F sc_Idle (fun _ _ _ _ _ _ us hl => match us, hl with | [_], _ => rfl) (fun vs H Q E h => ?_) (fun f cdv A outer s H vs Q E hr h => ?_)
  · obtain ⟨v, _, _, rfl, _⟩ := h; rfl
  refine ⟨_, pss_cons (ps_expr (pe_df DC hr (by decide) (by rfl) (pa_cons (pv 0) pa_nil))) (pss_one (ps_ret (pe_cmpR op_isN1 (pe_df DF hr (by decide) (by rfl) (pa_cons (pv 0) (pa_cons (pe_lst pa_nil) pa_nil))) pe_non (nomark _)))), ?_⟩
  obtain ⟨v, one, r, rfl, hv, T, hf, q⟩ := h
  refine q_drop (ev_call (ea_cons (ev_var rfl) ea_nil) (spv_checkO (hv.odsV) (T.o1) (T.s1))) fun H1 e1 => ?_
  exact s_ret (ev_op (ev_first2 (er_var rfl (hv.mono e1)) er_nil T hf) ev_c rv_isNone) fun H3 e3 => q H3 (e1.trans e3)
theorem spv_Idle {v : V} {one : List Od} {r : Option Tx} {H : Hp} (hv : OdsL H v one) (T : Two one []) (h : fuM one [] = some r) : SpV spIdle [v] H (.bl (decide (r = none))) :=
  spv_of fun H1 e Q E q => ⟨v, one, r, rfl, hv.mono e, T, h, q⟩
theorem sc_Settled : FnScope ["orders"] ["orders"] (defScope (top 31)) := ⟨rfl, rfl, rfl, by decide +kernel, rfl, by decide +kernel, by decide +kernel⟩
def spSettled : Sp := fun vs H Q _ => ∃ (v : V) (one : List Od) (r : Option Tx), vs = [v] ∧ OdsL H v one ∧ Two (one ++ one) one ∧ fuM (one ++ one) one = some r ∧ RetV (.bl (decide (r = none))) H Q
theorem ok_Settled (F : At K mg 31 "settled") (DC : Df P w K mg base 5 "check_orders" ["value"] spCheckO) (DF : Df P w K mg base 6 "first_unlike" ["one", "other"] spFirst) : Df P w K mg base 7 "settled" ["orders"] spSettled := by
  refine Df.made (N := ["orders"]) F sc_Settled (fun _ _ _ _ _ _ us hl => match us, hl with | [_], _ => rfl) (fun vs H Q E h => ?_) (fun f cdv A outer s H vs Q E hr h => ?_)
  · obtain ⟨v, _, _, rfl, _⟩ := h; rfl
  refine ⟨_, pss_cons (ps_expr (pe_df DC hr (by decide) (by rfl) (pa_cons (pv 0) pa_nil))) (pss_one (ps_ret (pe_cmpR op_isN1 (pe_df DF hr (by decide) (by rfl) (pa_cons (pe_op op_cat (pv 0) (pv 0)) (pa_cons (pv 0) pa_nil))) pe_non (nomark _)))), ?_⟩
  obtain ⟨v, one, r, rfl, hv, T, hf, q⟩ := h
  refine q_drop (ev_call (ea_cons (ev_var rfl) ea_nil) (spv_checkO (hv.odsV) (T.o2) (T.s2))) fun H1 e1 => ?_
  exact s_ret (ev_op (ev_first2 (er_cat (er_var rfl (hv.mono e1)) (er_var rfl (hv.mono e1)) T.cat) (er_var rfl (hv.mono e1)) T hf) ev_c rv_isNone) fun H3 e3 => q H3 (e1.trans e3)
theorem spv_Settled {v : V} {one : List Od} {r : Option Tx} {H : Hp} (hv : OdsL H v one) (T : Two (one ++ one) one) (h : fuM (one ++ one) one = some r) : SpV spSettled [v] H (.bl (decide (r = none))) :=
  spv_of fun H1 e Q E q => ⟨v, one, r, rfl, hv.mono e, T, h, q⟩
theorem sc_Undoes : FnScope ["one", "other"] ["one", "other"] (defScope (top 32)) := ⟨rfl, rfl, rfl, by decide +kernel, rfl, by decide +kernel, by decide +kernel⟩
def spUndoes : Sp := fun vs H Q _ => ∃ (v u : V) (one other : List Od) (r : Option Tx), vs = [v, u] ∧ OdsL H v one ∧ OdsL H u other ∧ Two (one ++ other) [] ∧ fuM (one ++ other) [] = some r ∧ RetV (.bl (decide (r = none))) H Q
theorem ok_Undoes (F : At K mg 32 "undoes") (DC : Df P w K mg base 5 "check_orders" ["value"] spCheckO) (DF : Df P w K mg base 6 "first_unlike" ["one", "other"] spFirst) : Df P w K mg base 7 "undoes" ["one", "other"] spUndoes := by
  refine Df.made (N := ["one", "other"]) F sc_Undoes (fun _ _ _ _ _ _ us hl => match us, hl with | [_, _], _ => rfl) (fun vs H Q E h => ?_) (fun f cdv A outer s H vs Q E hr h => ?_)
  · obtain ⟨v, u, _, _, _, rfl, _⟩ := h; rfl
  refine ⟨_, pss_cons (ps_expr (pe_df DC hr (by decide) (by rfl) (pa_cons (pv 0) pa_nil))) (pss_cons (ps_expr (pe_df DC hr (by decide) (by rfl) (pa_cons (pv 1) pa_nil))) (pss_one (ps_ret (pe_cmpR op_isN1 (pe_df DF hr (by decide) (by rfl) (pa_cons (pe_op op_cat (pv 0) (pv 1)) (pa_cons (pe_lst pa_nil) pa_nil))) pe_non (nomark _))))), ?_⟩
  obtain ⟨v, u, one, other, r, rfl, hv, hu, T, hf, q⟩ := h
  refine q_drop (ev_call (ea_cons (ev_var rfl) ea_nil) (spv_checkO (hv.odsV) (T.o1.left) (T.s1.left))) fun H1 e1 => ?_
  refine q_drop (ev_call (ea_cons (ev_var rfl) ea_nil) (spv_checkO ((hu.mono e1).odsV) (T.o1.right) (T.s1.right))) fun H2 e2 => ?_
  exact s_ret (ev_op (ev_first2 (er_cat (er_var rfl (hv.mono (e1.trans e2))) (er_var rfl (hu.mono (e1.trans e2))) T.cat) er_nil T hf) ev_c rv_isNone) fun H3 e3 => q H3 ((e1.trans e2).trans e3)
theorem spv_Undoes {v u : V} {one other : List Od} {r : Option Tx} {H : Hp} (hv : OdsL H v one) (hu : OdsL H u other) (T : Two (one ++ other) []) (h : fuM (one ++ other) [] = some r) : SpV spUndoes [v, u] H (.bl (decide (r = none))) :=
  spv_of fun H1 e Q E q => ⟨v, u, one, other, r, rfl, hv.mono e, hu.mono e, T, h, q⟩
end
end Ev
set_option Elab.async false
set_option linter.all false
set_option maxRecDepth 100000
set_option maxHeartbeats 4000000
namespace Ev
open PySem PySem.Spec PyProof.Rows L2 Evl StX LamX NdefX
/-! ### functions as values -/
section
variable {X : Cx} {pins : List (Addr × Obj)} {σ : L2.St} {H : Hp} {s : Shared} {cl : List (Str × Addr)} {fr : List Str} {ws : List (Option V)}
/-- what the cells held when the running frame began they hold still -/
theorem cells_keep (C : CellsAt cl fr ws X.s_0.heap X.H_0) (hx : X.ex = []) (I : Inv X pins σ H s) : CellsAt cl fr ws s.heap H := by
  have nx : ∀ c, c ∉ X.ex := fun c z => by rw [hx] at z; cases z
  have kp : ∀ y c, cl.lookup y = some c → ∀ v, X.s_0.heap.IsCell c v → s.heap.IsCell c v := fun y c e v ⟨o, ho, hd⟩ => by
    obtain ⟨sl, q⟩ := I.base.any ho (C.all y c e).1 (nx c)
    exact ⟨_, q, hd⟩
  refine ⟨C.len, fun y c e => ?_, C.inj, fun i y e => ?_⟩
  · obtain ⟨n, v, z⟩ := C.all y c e
    refine ⟨?_, v, kp y c e v z⟩
    obtain ⟨o, ho, _⟩ := z
    exact I.base.free c o ho n (nx c)
  · obtain ⟨c, hc, hv⟩ := C.has i y e
    refine ⟨c, hc, fun v ev => ?_⟩
    obtain ⟨u, r, z⟩ := hv v ev
    exact ⟨u, r, kp y c hc _ z⟩
end
/-- a function at f that can be called: tr, what must be tracked of it; cells, what its captured cells hold -/
structure CallV (P : Program) (w : World) (K : PySem.W.Frag) (mg : Str → Option Value) (base : Heap) (k : Nat) (f : Addr) (tr : Hp → Prop) (cells : Heap → Hp → Prop) (sp : Sp) : Prop where
  at_ : ∀ (H : Hp) (h : Heap), HOk P w H h → tr H → PySem.W.FnAt f h
  run : ∀ (A : Around) (outer : List Env) (s : Shared) (H : Hp) (us : List Value) (vs : List V) (Q : VK) (E : XK), Room k A → Env0 P w K mg base A outer s H → tr H → cells s.heap H → Vals vs us → sp vs H Q E → codeAny (model P w) A (.call (.ref f) ⟨us, []⟩) (CR CX0 outer P w H s Q E) s
def tCallV (f : Addr) (tr : Hp → Prop) (i : Nat) (sp : Sp) (t : TA) : TE := fun σ H Q => σ[i]? = some (some (.ref f)) ∧ tr H ∧ t σ H fun vs H1 => tr H1 ∧ sp vs H1 Q E0
section
variable {X : Cx} {k i j : Nat} {f : Addr} {tr : Hp → Prop} {cells : Heap → Hp → Prop} {sp : Sp} {x : Str} {e : Expr} {es : List Expr} {t : TA} {p pos : Pos}
theorem pe_callV (C : CallV X.prog X.w X.K X.mg X.base k f tr cells sp) (hce : ∀ pins σ H s, Inv X pins σ H s → cells s.heap H) (hr : Room j X.A) (hk : k ≤ j) (hN : X.N[i]? = some x) (hv : Vis X.env.scope x) (ha : PA X (e :: es) t)
    (hd : (x == ("__debug__" : Str)) = false := by decide) (hcd : (x == ("__classdict__" : Str)) = false := by decide)
    (he : starEach (e :: es) X.env = (false, eval e X.env) :: starEach es X.env := by rfl) (hpl : (backTo pos (starEach es X.env)).any (·.1) = false := by rfl) :
    PE X (.Call (.Name x p) (e :: es) [] pos) (tCallV f tr i sp t) := by
  refine ⟨fun pins s σ H Q I h => ?_⟩
  obtain ⟨hs, hf, ht⟩ := h
  refine wpAny_Call_Name_kw (thn ((pe_var (pos := p) hN hv hd hcd).run pins s σ H (fun v H1 => v = .ref f ∧ H1 = H) I ⟨.ref f, hs, rfl, rfl⟩) fun u s1 ⟨v, H1, I1, r1, q1⟩ => ?_)
  obtain ⟨ev, eH⟩ := q1
  subst ev
  rw [eH] at I1
  obtain rfl : u = Value.ref f := r1
  refine PySem.W.callWith_F (first := []) (C.at_ _ _ I1.hok hf) (thn (ha.run pos pins s1 σ H _ I1 ht) fun us s2 ⟨vs, H2, I2, r, h1, q⟩ => ⟨C.at_ _ _ I2.hok h1, ?_⟩) he hpl
  show wpAny _ _ (call (.ref f) us) _ _ _
  refine wpAny_call (codeAny_mono (C.run X.A X.stack s2 H2 us vs _ E0 (hr.mono hk) I2.env0 h1 (hce _ _ _ _ I2) r q) fun r s' hq => ?_)
  cases r with
  | error e => exact pass0 pins σ H2 s2 e s' I2 hq
  | ok fl =>
    cases fl with
    | ret u => exact I2.after hq
    | next => exact False.elim hq
    | brk => exact False.elim hq
    | cont => exact False.elim hq
end
section
variable {P : Program} {w : World} {K : PySem.W.Frag} {mg : Str → Option Value} {base : Heap} {N ps fr : List Str} {k : Nat} {f : Addr}
theorem callV_def {F : NF} {ws : List (Option V)} {sp : List (Option V) → Sp} (o : NOk P w K mg base CX0 k f F ps fr sp) :
    CallV P w K mg base k f (fun H => H f = some (FnO f F) ∧ H F.c = some (CodeO F.c F.qual)) (fun h H => CellsAt F.cl fr ws h H) (sp ws) :=
  ⟨fun H h hok t => let ⟨od, sl, doc, pm, ctv, ho⟩ := fnO_at hok t.1; ⟨_, od, _, sl, ho⟩, fun A outer s H us vs Q E hr e0 t c r q => o.run A outer s H us vs ws Q E hr e0 t.1 t.2 c r q⟩
/-! ### lambdas -/
structure LF where
  qual : Str
  params : Arguments
  body : Expr
  scope : Scope
  cl : List (Str × Addr)
  c : Addr
abbrev LF.fd (L : LF) (pm ctv : Value) : FuncData := PySem.W.kla_fn "<lambda>" L.qual L.params L.body L.scope L.cl pm (.ref L.c) ctv
abbrev LF.obj (L : LF) (pm ctv : Value) : Obj := PySem.W.kla_obj "<lambda>" L.qual L.params L.body L.scope L.cl pm L.c ctv
def FnL (f : Addr) (L : LF) : HO := .ext fun h => ∃ pm ctv, h.get? f = some (L.obj pm ctv)
abbrev LF.nf (L : LF) : NF := ⟨"<lambda>", L.qual, L.params, [], L.scope, L.cl, L.c⟩
theorem fnL_at {H : Hp} {h : Heap} {L : LF} (hok : HOk P w H h) (e : H f = some (FnL f L)) : ∃ pm ctv, h.get? f = some (L.obj pm ctv) := by
  obtain ⟨z, _, _⟩ := hok f _ e
  exact z
theorem callV_lam {L : LF} {ws : List (Option V)} {sp : Sp} (S : NScope N ps fr L.scope) (hb : ∀ (pm ctv : Value) (us : List Value), us.length = ps.length → bindArgs (L.fd pm ctv) ⟨us, []⟩ = pure (ps.zip us)) (len : ∀ vs H Q E, sp vs H Q E → vs.length = ps.length)
    (hbody : ∀ (A : Around) (outer : List Env) (s : Shared) (H : Hp) (vs : List V) (Q : VK) (E : XK), Room k (A.deeper (envF L.nf f s.heap.objs.size)) → ws.length = fr.length → sp vs H Q E →
      ∃ t, PE (ncx CX0 P w K mg base N L.nf f A outer s H E) L.body t ∧ t (startF N vs ws) H Q) :
    CallV P w K mg base (k + 1) f (fun H => H f = some (FnL f L) ∧ H L.c = some (CodeO L.c L.qual)) (fun h H => CellsAt L.cl fr ws h H) sp := by
  refine ⟨fun H h hok t => let ⟨pm, ctv, ho⟩ := fnL_at hok t.1; ⟨_, _, _, _, ho⟩, fun A outer s H us vs Q E hr e0 hf C r hsp => ?_⟩
  have hl := len _ _ _ _ hsp
  have lim : s.heap.NoLimit := e0.mod.nolimit.keeps fun b o e => (e0.bs b o e).1
  obtain ⟨pm, ctv, ho⟩ := fnL_at e0.hok hf.1
  refine PySem.W.kla_callFunE hr.depth ho rfl S.co S.gen rfl (codeO_at e0.hok hf.2) ?_
  rw [hb pm ctv us (by rw [← r.length]; exact hl)]
  refine wpAny_pure (wpAny_newFunctionEnv S.nocell (fun ⟨n, _⟩ hy => S.par n (List.of_mem_zip hy).1) (fun h₁ hns hsb => ⟨lim.fresh _ hsb, ?_⟩) S.kind)
  show codeAny _ _ (.expr L.body (envF L.nf f s.heap.objs.size)) _ _
  have kp : ∀ b o, s.heap.get? b = some o → h₁.get? b = some o := fun b o e => hsb.extBut b o (Nat.ne_of_lt (Heap.lt_size e)) (Heap.get?_push_of_some _ e)
  obtain ⟨t, ht, hq⟩ := hbody A outer s H vs Q E (hr.deeper _) C.len hsp
  have I : Inv (ncx CX0 P w K mg base N L.nf f A outer s H E) [] (startF N vs ws) H { s with heap := h₁, toks := s.toks + (ps.zip us).length } := inv_startN S hr.hd e0 hl r C hns kp
  refine PySem.W.kla_codeExpr (wpAny_mono (ht.run [] _ (startF N vs ws) H _ I hq) (fun u s' hs => ?_) fun e s' hs => hs)
  obtain ⟨v, H', J, rv, q⟩ := hs
  exact ⟨v, H', J.os, J.bare, J.base, J.hok, rv, q⟩
end
section
variable {X : Cx} {pins : List (Addr × Obj)} {σ : L2.St} {H : Hp} {s : Shared}
theorem inv_lam {L : LF} {o : Obj} {t' : Nat} {pm ctv : Value} (I : Inv X pins σ H s) (ho : o = L.obj pm ctv) :
    Inv X pins σ (upd H s.heap.objs.size (FnL s.heap.objs.size L)) { s with heap := s.heap.push o, toks := t' } := by
  subst ho
  refine I.laid (a := s.heap.objs.size) (fun b u e => Heap.get?_push_of_some _ e) (Nat.le_refl _) ?_
  have e : (s.heap.push (L.obj pm ctv)).get? s.heap.objs.size = some (L.obj pm ctv) := Heap.get?_push_size _ rfl
  exact ⟨⟨pm, ctv, e⟩, ⟨_, e⟩, fun h1 h2 ⟨p, t, z⟩ st => ⟨p, t, st _ z⟩⟩
/-- the lambda's object is made: its code object is new, or found in the table -/
theorem lam_makeN {T : List NTab} {nm : Nat → Nat → Str} {c P : Addr} {params : Arguments} {body : Expr} {scope : Scope} {pos : Pos} {E : Value → Shared → Prop} {Q : Value → Shared → Prop} (I : Inv X pins σ H s) (TB : TabB X.base X.mg c P) (hcode : X.env.code = .ref c)
    (hm : (P, nm) ∈ T) (hn : nm pos.line pos.col = X.env.qual ++ "<lambda>") (hu : ∀ p ∈ T, p.1 = P → p.2 = nm) (hT : TabsN T H) (hdef : defaultsOf params X.env = ([], [])) (hfree : ∀ y ∈ scope.names, y.2 = .free → ∃ c, X.env.cells.lookup y.1 = some c)
    (h : ∀ (f c' : Addr) (H1 : Hp) (s' : Shared), Inv X pins σ H1 s' → ExtN H H1 → TabsN T H1 → H f = none → H1 f = some (FnL f ⟨X.env.qual ++ "<lambda>", params, body, scope, cloFrom X.env.cells scope.names [], c'⟩) → H1 c' = some (CodeO c' (X.env.qual ++ "<lambda>")) → Q (.ref f) s') :
    wpAny (model X.prog X.w) X.A (eval (.Lambda params body scope pos) X.env) Q E s := by
  obtain ⟨ps, hP, ht, ha⟩ := (show TabN H P nm from hT _ hm)
  refine PySem.W.kla_eval hdef ?_
  have bP : s.heap.BuiltinsAt X.mg P := TB.bm.keeps I.bk
  have hP' : s.heap.get? P = some { cls := .none, data := .fields ps } := I.hok P _ hP
  cases hc : codeAmong pos ps.toList with
  | none =>
    refine PySem.W.kla_makeFunction (mg := X.mg) (c := c) (P := P) (ps := ps) (closure_ok hfree) I.ok.glob (I.mod.glob.keeps I.bk) hcode (TB.code.keeps I.bk) hP' ht hc TB.gP bP fun c' ctv h' tk hx hge hlt hrec htb => ?_
    obtain ⟨c2, oc, vs, t, e2, hoc, hd, hv⟩ := hrec
    cases e2
    have nC : H c' = none := I.hok.fresh hge
    have I1 := inv_table (t' := tk) (more := #[rawInt pos.line, rawInt pos.col, .ref c']) (h' := h') I hP (fun b o hb e => hx b o hb e) htb hge ⟨oc, vs, t, hoc, hd, hv⟩
    have hE : ExtN H (upd (upd H P (.tbl (ps ++ #[rawInt pos.line, rawInt pos.col, .ref c']))) c' (CodeO c' (X.env.qual ++ "<lambda>"))) := fun b o e n => by
      rw [upd_ne (ne_of_none e nC), upd_ne (fun z => n ps (Option.some.inj (e.symm.trans (by rw [z]; exact hP))))]
      exact e
    have eL : (ps ++ #[rawInt pos.line, rawInt pos.col, .ref c']).toList = ps.toList ++ [rawInt pos.line, rawInt pos.col, .ref c'] := by simp
    have T1 : TabsN T (upd (upd H P (.tbl (ps ++ #[rawInt pos.line, rawInt pos.col, .ref c']))) c' (CodeO c' (X.env.qual ++ "<lambda>"))) := fun p hp => by
      by_cases hb : p.1 = P
      · rw [hu p hp hb, hb]
        refine ⟨_, by rw [upd_ne (ne_of_none hP nC), upd_same], by rw [eL]; exact PySem.TriplesOk_snoc _ _ _ _ ht, fun p' cv hcv => ?_⟩
        rw [eL] at hcv
        rcases among_app2 _ ht hcv with z | ⟨z, z1, z2⟩
        · obtain ⟨c0, e1, e2⟩ := ha p' cv z
          exact ⟨c0, e1, hE _ _ e2 codeO_ne⟩
        · refine ⟨c', z, ?_⟩
          rw [← z1, ← z2, hn]
          exact upd_same
      · obtain ⟨ps', a1, a2, a3⟩ := hT p hp
        refine ⟨ps', by rw [upd_ne (ne_of_none a1 nC), upd_ne hb]; exact a1, a2, fun p' cv hcv => ?_⟩
        obtain ⟨c0, e1, e2⟩ := a3 p' cv hcv
        exact ⟨c0, e1, hE _ _ e2 codeO_ne⟩
    have nF := I1.hok.fresh (Nat.le_refl _)
    have I2 := inv_lam (L := ⟨X.env.qual ++ "<lambda>", params, body, scope, cloFrom X.env.cells scope.names [], c'⟩) (t' := tk) (pm := (X.mg "__name__").getD .none) (ctv := ctv) I1 rfl
    refine h h'.objs.size c' _ _ I2 (fun b o e n => ?_) (T1.ext fun b o e => ?_) (I.hok.fresh (Nat.le_trans hge (Nat.le_of_lt hlt))) upd_same ?_
    · have e1 := hE b o e n
      exact (upd_ne (ne_of_none e1 nF)).trans e1
    · exact (upd_ne (ne_of_none e nF)).trans e
    · exact (upd_ne (Nat.ne_of_lt hlt)).trans upd_same
  | some cv =>
    obtain ⟨c', e, hco⟩ := ha pos cv hc
    subst e
    rw [hn] at hco
    refine PySem.W.kla_makeFunctionHit (mg := X.mg) (c := c) (P := P) (ps := ps) (closure_ok hfree) I.ok.glob (I.mod.glob.keeps I.bk) hcode (TB.code.keeps I.bk) hP' ht hc bP fun ctv h' tk hx hsz => ?_
    have I1 : Inv X pins σ H { s with heap := h', toks := tk } := I.kept hx
    have nF : H h'.objs.size = none := I1.hok.fresh (Nat.le_refl _)
    have I2 := inv_lam (L := ⟨X.env.qual ++ "<lambda>", params, body, scope, cloFrom X.env.cells scope.names [], c'⟩) (t' := tk) (pm := (X.mg "__name__").getD .none) (ctv := ctv) I1 rfl
    refine h h'.objs.size c' _ _ I2 (fun b o e n => ?_) (hT.ext fun b o e => ?_) nF upd_same ?_
    · exact (upd_ne (ne_of_none e nF)).trans e
    · exact (upd_ne (ne_of_none e nF)).trans e
    · exact (upd_ne (ne_of_none hco nF)).trans hco
end
/-- a lambda: a new function -/
def tLamN (T : List NTab) (mk : Addr → LF) : TE := fun σ H Q => TabsN T H ∧ ∀ (f c' : Addr) (H1 : Hp), ExtN H H1 → TabsN T H1 → H f = none → H1 f = some (FnL f (mk c')) → H1 c' = some (CodeO c' (mk c').qual) → Q (.ref f) H1
theorem pe_lamN {X : Cx} {T : List NTab} {nm : Nat → Nat → Str} {c P : Addr} {params : Arguments} {body : Expr} {scope : Scope} {pos : Pos} (TB : TabB X.base X.mg c P) (hcode : X.env.code = .ref c) (hm : (P, nm) ∈ T) (hn : nm pos.line pos.col = X.env.qual ++ "<lambda>") (hu : ∀ p ∈ T, p.1 = P → p.2 = nm)
    (hdef : defaultsOf params X.env = ([], [])) (hfree : ∀ y ∈ scope.names, y.2 = .free → X.env.scope.names.lookup y.1 = some .cell ∨ X.env.scope.names.lookup y.1 = some .free) :
    PE X (.Lambda params body scope pos) (tLamN T fun c' => ⟨X.env.qual ++ "<lambda>", params, body, scope, cloFrom X.env.cells scope.names [], c'⟩) := by
  refine ⟨fun pins s σ H Q I h => ?_⟩
  obtain ⟨hT, h⟩ := h
  have hfr : ∀ y ∈ scope.names, y.2 = .free → ∃ c, X.env.cells.lookup y.1 = some c := fun y hy e => (hfree y hy e).elim (fun z => I.ok.has _ (.inl z)) fun z => I.ok.has _ (.inr z)
  exact lam_makeN I TB hcode hm hn hu hT hdef hfr fun f c' H1 s' I1 eN T1 f0 f1 c1 => ⟨.ref f, H1, I1, rfl, h f c' H1 eN T1 f0 f1 c1⟩
end Ev
set_option Elab.async false
set_option linter.all false
set_option maxRecDepth 100000
set_option maxHeartbeats 4000000
namespace Ev
open PySem PySem.Spec PyProof.Rows L2 Evl StX LamX NdefX
/-! ### a def called, its body told of the very state -/
theorem pe_callS {X : Cx} {k j i : Nat} {x : Str} {N ps : List Str} {Φ : L2.St → List V → Hp → VK → Prop} {cells : L2.St → Heap → Hp → Prop} {e : Expr} {es : List Expr} {t : TA} {p pos : Pos} (F : At X.K X.mg i x) (Sc : FnScope N ps (defScope (top i)))
    (hb : ∀ (kV doc pm : Value) (an : Option Addr) (cdv ct : Value) (us : List Value), us.length = ps.length → bindArgs (PySem.W.fnOf x x (defArgs (top i)) (defBody (top i)) (defScope (top i)) .none kV doc pm an cdv ct) ⟨us, []⟩ = pure (ps.zip us))
    (len : ∀ σ vs H Q, Φ σ vs H Q → vs.length = ps.length) (hr : Room j X.A) (hk : k + 1 ≤ j) (hg : Gl X x) (ha : PA X (e :: es) t) (hce : ∀ pins σ H s, Inv X pins σ H s → cells σ s.heap H)
    (hbody : ∀ (f : Addr) (cdv : Value) (A : Around) (outer : List Env) (s : Shared) (σ : L2.St) (H : Hp) (vs : List V) (Q : VK), Room k (A.deeper (envOfC x (defScope (top i)) s.heap.objs.size f cdv)) → cells σ s.heap H → Φ σ vs H Q →
      ∃ t, PSs (cxOf CX0 X.prog X.w X.K X.mg X.base N x (defScope (top i)) f cdv A outer s H E0).nox (defBody (top i)) t ∧ t { nx := fun _ H' => Q .non H', rt := Q } (L2.start N vs) H)
    (hdb : (x == ("__debug__" : Str)) = false := by decide) (he : starEach (e :: es) X.env = (false, eval e X.env) :: starEach es X.env := by rfl) (hpl : (backTo pos (starEach es X.env)).any (·.1) = false := by rfl) :
    PE X (.Call (.Name x p) (e :: es) [] pos) (fun σ H Q => t σ H fun vs H1 => Φ σ vs H1 Q) := by
  refine ⟨fun pins s σ H Q I h => ?_⟩
  obtain ⟨f, fd, F, hm⟩ := F
  have hB := F.bindsN hb
  have hkp := F.kp
  obtain ⟨oc, od, dV, kV, doc, pm, an, cdv, ct, osl, rfl, lk, hcd, _, _⟩ := F.ex
  refine wpAny_Call_Name_kw (ld_glob I hg hm ?_ hdb)
  refine PySem.W.callWith_K (h₀ := X.base) I.ok.mod.kin hkp (thn (ha.run pos pins s σ H _ I h) fun us s1 ⟨vs, H1, I1, r, q⟩ => ⟨I1.kIn, ?_⟩) he hpl
  have hl := len _ _ _ _ q
  have hlu : us.length = ps.length := by rw [← r.length]; exact hl
  refine wpAny_call (codeAny_mono (run_ofS (CX := CX0) (N := N) (ps := ps) (k := k) (us := us) (vs := vs) (Q := Q) (E := E0) lk hcd Sc (hr.mono hk) I1.env0 ?_ r hl fun hr' => ?_) fun r s' hq => ?_)
  · have := hB s1 us I1.kIn (by rw [List.append_nil]; exact hlu)
    rw [List.append_nil] at this
    exact this
  · obtain ⟨t', h1, h2⟩ := hbody f cdv X.A X.stack s1 σ H1 vs Q hr' (hce _ _ _ _ I1) q
    exact ⟨t', h1.nox, h2⟩
  · cases r with
    | error e => exact pass0 pins σ H1 s1 e s' I1 hq
    | ok fl =>
      cases fl with
      | ret u => exact I1.after hq
      | next => exact False.elim hq
      | brk => exact False.elim hq
      | cont => exact False.elim hq
section
variable {P : Program} {w : World} {K : PySem.W.Frag} {mg : Str → Option Value} {base : Heap}
/-! ### nodes of least_line -/
def keyNr (x : Nr) : NestedKey := .tup [.tup (x.1.map keyMs), .text (S x.2)]
theorem keyNr_inj {a b : Nr} (h : keyNr a = keyNr b) : a = b := by
  unfold keyNr at h
  have h1 := NestedKey.tup.inj h
  rw [List.cons.injEq, List.cons.injEq] at h1
  obtain ⟨h2, h3, _⟩ := h1
  cases a
  cases b
  rw [Prod.mk.injEq]
  exact ⟨keyMss_inj (NestedKey.tup.inj h2), S_inj (NestedKey.text.inj h3)⟩
def NrV (H : Hp) (v : V) (x : Nr) : Prop := ∃ a s, v = .ref a ∧ Rd H a (.tup [.ref s, st x.2]) ∧ Rd H s (.tup (x.1.map MsV))
theorem NrV.t {H H' : Hp} {v : V} {x : Nr} (e : ExT H H') (h : NrV H v x) : NrV H' v x := let ⟨a, s, h1, h2, h3⟩ := h; ⟨a, s, h1, e _ _ h2, e _ _ h3⟩
theorem NrV.mono {H H' : Hp} {v : V} {x : Nr} (e : Ex H H') (h : NrV H v x) : NrV H' v x := h.t (Ex.t e)
theorem NrV.key {H : Hp} {v : V} {x : Nr} (h : NrV H v x) : KeyV H (keyNr x) v := by
  obtain ⟨a, s, rfl, h2, h3⟩ := h
  exact .tup h2 (.cons (.tup h3 (keyMss_v _)) (.cons (.text _) .nil))
theorem depthNr (x : Nr) : (keyNr x).depth ≤ 8 := by
  show max (NestedKey.depthAll (x.1.map keyMs) + 1) (max 0 0) + 1 ≤ 8
  rw [depthMss]
  decide
def KrV (P : Program) (w : World) (H : Hp) (d : Addr) (k : List Nr) : Prop := ∃ kas, KN P w H d kas ∧ kas.map (·.1) = k.map keyNr
theorem KrV.mono {H H' : Hp} {d : Addr} {k : List Nr} (e : Ex H H') (h : KrV P w H d k) : KrV P w H' d k := let ⟨kas, a, b⟩ := h; ⟨kas, a.mono e, b⟩
theorem KrV.t {H H' : Hp} {d : Addr} {k : List Nr} (e : ExT H H') (hd : H' d = H d) (h : KrV P w H d k) : KrV P w H' d k := let ⟨kas, a, b⟩ := h; ⟨kas, a.t e hd, b⟩
theorem any_keyR {kas : List (NestedKey × Addr)} {k : List Nr} (h : kas.map (·.1) = k.map keyNr) (nd : Nr) : (kas.any fun z => decide (z.1 = keyNr nd)) = decide (nd ∈ k) := by
  have e1 : (kas.any fun z => decide (z.1 = keyNr nd)) = (kas.map (·.1)).any fun z => decide (z = keyNr nd) := by rw [List.any_map]; rfl
  rw [e1, h, List.any_map, Bool.eq_iff_iff, List.any_eq_true, decide_eq_true_eq]
  constructor
  · rintro ⟨x, hx, e⟩
    have e2 : keyNr x = keyNr nd := by simpa using e
    rw [← keyNr_inj e2]
    exact hx
  · intro hx
    exact ⟨nd, hx, by simp⟩
section
variable {σ : L2.St} {H : Hp} {ta tb te td ty : TE} {xs : List V} {D : Ends} {tu tz : TS}
theorem ev_notInR {d a : Addr} {k : List Nr} {nd : Nr} (h1 : Ev ty σ H (.ref a)) (h2 : Ev td σ H (.ref d)) (hk : KrV P w H d k) (hn : NrV H (.ref a) nd) : Ev (tNotInN P w ty td) σ H (.bl (!decide (nd ∈ k))) := fun H1 e Q q =>
  h1 H1 e _ fun H2 e2 => h2 H2 (e.trans e2) _ fun H3 e3 => by
    obtain ⟨kas, kn, ek⟩ := hk.mono ((e.trans e2).trans e3)
    refine ⟨d, a, kas, keyNr nd, rfl, rfl, kn, (hn.mono ((e.trans e2).trans e3)).key, depthNr nd, ?_⟩
    rw [any_keyR ek]
    exact q H3 (e2.trans e3)
theorem q_nputR {d a : Addr} {k : List Nr} {nd : Nr} (h1 : Ev td σ H (.ref d)) (h2 : Ev ty σ H (.ref a)) (hk : KrV P w H d k) (hn : NrV H (.ref a) nd) (hin : nd ∉ k) (hz : k.length < sizeLine)
    (q : ∀ H1 o, Ex H H1 → Mut (H1 d) → KrV P w (upd H1 d o) d (k ++ [nd]) → tz D σ (upd H1 d o)) : tSeq (sNPut P w td ty) tz D σ H :=
  h1 H (Ex.refl H) _ fun H2 e2 => h2 H2 e2 _ fun H3 e3 => by
    obtain ⟨kas, kn, ek⟩ := hk.mono (e2.trans e3)
    have hm : Mut (H3 d) := by rw [kn.1]; exact True.intro
    have hn3 := hn.mono (e2.trans e3)
    have el : kas.length = k.length := by have := congrArg List.length ek; simpa using this
    refine ⟨d, a, kas, keyNr nd, rfl, rfl, kn, hn3.key, depthNr nd, ?_, by rw [el]; exact hz, q H3 _ (e2.trans e3) hm ⟨kas ++ [(keyNr nd, a)], ⟨upd_same, fun x hx => ?_⟩, ?_⟩⟩
    · rw [any_keyR ek]
      exact decide_eq_false hin
    · rcases List.mem_append.mp hx with hx | hx
      · exact ⟨KeyV.t (ExT.mut hm) _ _ (kn.2 x hx).1, (kn.2 x hx).2⟩
      · rw [List.mem_singleton.mp hx]
        exact ⟨KeyV.t (ExT.mut hm) _ _ hn3.key, depthNr nd⟩
    · rw [List.map_append, ek, List.map_append]
      rfl
theorem q_dnK {a : Addr} {k : NestedKey} {i : Nat} (h : ∀ H1, Ex H H1 → Ev te σ H1 (.ref a)) (hn : KeyV H k (.ref a)) (hd : k.depth ≤ 8) (q : ∀ p H1, H p = none → Ex H H1 → KN P w H1 p [(k, a)] → tz D (σ.set i (some (.ref p))) H1) : tSeq (tAsg (tDN1 P w te) (gName i)) tz D σ H := fun p hp =>
  h _ (Ex.new hp) _ (Ex.refl _) _ fun H2 e2 => by
    have hm : H2 p = some (dN P w p []) := e2 _ _ upd_same
    have hM : Mut (H2 p) := by rw [hm]; exact True.intro
    have e02 : Ex H H2 := (Ex.new hp).trans e2
    refine ⟨hm, a, k, rfl, KeyV.mono e02 _ _ hn, hd, q p _ hp (e02.mut hp) ⟨upd_same, fun x hx => ?_⟩⟩
    rw [List.mem_singleton.mp hx]
    exact ⟨KeyV.t (ExT.mut hM) _ _ (KeyV.mono e02 _ _ hn), hd⟩
end
def PW (H : Hp) (v : V) (p : Tx × Nr) : Prop := ∃ a n, v = .ref a ∧ Rd H a (.tup [st p.1, n]) ∧ NrV H n p.2
theorem PW.t {H H' : Hp} {v : V} {p : Tx × Nr} (e : ExT H H') (h : PW H v p) : PW H' v p := let ⟨a, n, h1, h2, h3⟩ := h; ⟨a, n, h1, e _ _ h2, h3.t e⟩
def LyV (H : Hp) (a : Addr) (l : LayR Nr) : Prop := ∃ xs, H a = some (.lst xs) ∧ Paired (PW H) xs l
theorem LyV.t {H H' : Hp} {a : Addr} {l : LayR Nr} (e : ExT H H') (ha : H' a = H a) (h : LyV H a l) : LyV H' a l := let ⟨xs, h1, h2⟩ := h; ⟨xs, ha.trans h1, L2.Paired.mapP h2 fun _ _ z => z.t e⟩
theorem LyV.mono {H H' : Hp} {a : Addr} {l : LayR Nr} (e : Ex H H') (h : LyV H a l) : LyV H' a l := let ⟨xs, h1, h2⟩ := h; ⟨xs, e _ _ h1, L2.Paired.mapP h2 fun _ _ z => z.t (Ex.t e)⟩
/-! ### least_line -/
/-- what least_line is asked, and what it finds -/
structure LL (os : List Od) (b : Tx) (signs : List Nat) (g : Tx → Tx → Option Tx) (ok : Tx → Tx → Bool) (r : Option Tx) : Prop where
  o : OkOs os
  s : SgOs os
  z : pow3 os ≤ 1000
  sg : ∀ c ∈ signs, c ∈ SG
  bz : b.length ≤ 4000
  gz : ∀ a c h, a.length ≤ 4000 → g a c = some h → h.length ≤ 4000
  res : ∃ N, llM os g ok b signs N = some r
  big : ∀ h0, g b (begM os []).2 = some h0 → ∀ k : List Nr, k.Nodup → (∀ x ∈ k, ∃ w, Over signs w ∧ runR (stepR os g) ((begM os []).1, h0) w = some x) → k.length ≤ 8000000
def RL (os : List Od) (g : Tx → Tx → Option Tx) (h0 : Tx) (signs : List Nat) (x : Nr) : Prop := ∃ w, Over signs w ∧ runR (stepR os g) ((begM os []).1, h0) w = some x
theorem rl_ok {os : List Od} {b : Tx} {signs : List Nat} {g : Tx → Tx → Option Tx} {ok : Tx → Tx → Bool} {r : Option Tx} (L : LL os b signs g ok r) {h0 : Tx} (hz : h0.length ≤ 4000) {x : Nr} (h : RL os g h0 signs x) : OkSs os x.1 ∧ SgSs x.1 ∧ x.2.length ≤ 4000 := by
  obtain ⟨w, hw, hx⟩ := h
  have e := run_cfg w x hx
  rw [e]
  refine ⟨(cfg_says L.o w).1, sg_cfg L.s w fun c hc => L.sg c (hw c hc), ?_⟩
  clear e hw
  revert x
  refine snoc_ind (P := fun w => ∀ {x : Nr}, runR (stepR os g) ((begM os []).1, h0) w = some x → x.2.length ≤ 4000) ?_ ?_ w
  · intro x hx; cases hx; exact hz
  · intro w c ih x hx
    rw [runR_snoc] at hx
    obtain ⟨y, hy, hxy⟩ := Option.bind_eq_some_iff.mp hx
    unfold stepR at hxy
    obtain ⟨h, hg, e⟩ := Option.map_eq_some_iff.mp hxy
    rw [← e]
    exact L.gz _ _ _ (ih hy) hg
theorem rl_step {os : List Od} {g : Tx → Tx → Option Tx} {h0 : Tx} {signs : List Nat} {x y : Nr} (h : RL os g h0 signs x) {c : Nat} (hc : c ∈ signs) (e : stepR os g x c = some y) : RL os g h0 signs y := by
  obtain ⟨w, hw, hx⟩ := h
  exact ⟨w ++ [c], hw.snoc hc, by rw [runR_snoc, hx]; exact e⟩
section
variable {σ : L2.St} {H : Hp} {ta tb te : TE} {t : TT} {D : Ends} {tz : TS} {g : TG}
theorem ev_callV {f : Addr} {tr : Hp → Prop} {i : Nat} {sp : Sp} {ta : TA} {vs : List V} {z : V} (hσ : σ[i]? = some (some (.ref f))) (hm : ∀ H H', Ex H H' → tr H → tr H') (ht : tr H) (h : EvA ta σ H vs) (hs : SpV sp vs H z) : Ev (tCallV f tr i sp ta) σ H z := fun H1 e Q q =>
  ⟨hσ, hm _ _ e ht, h H1 e _ fun H2 e2 => ⟨hm _ _ (e.trans e2) ht, hs H2 (e.trans e2) Q (fun H3 e3 => q H3 (e2.trans e3)) E0⟩⟩
theorem q_asgIf {b : Bool} (h : EvT t σ H b) (k1 : b = true → ∀ H1, Ex H H1 → tSeq (tAsg ta g) tz D σ H1) (k2 : b = false → ∀ H1, Ex H H1 → tSeq (tAsg tb g) tz D σ H1) : tSeq (tAsg (tIf t ta tb) g) tz D σ H :=
  h H (Ex.refl H) _ fun H1 e => by
    cases b with
    | true => exact k1 rfl H1 e
    | false => exact k2 rfl H1 e
theorem rv_notNone {r : Option Tx} : RV rNotN (rV r) .non H (.bl r.isSome) := fun H1 _ Q q => ⟨rfl, by
  have e : (!decide (rV r = V.non)) = r.isSome := by cases r <;> rfl
  rw [e]
  exact q H1 (Ex.refl H1)⟩
end
theorem sc_least : FnScope ["orders", "begin", "step", "right", "signs", "states", "out", "node", "layer", "known", "line", "further", "sign", "after"] ["orders", "begin", "step", "right", "signs"] (defScope (top 33)) := ⟨rfl, rfl, rfl, by decide +kernel, rfl, by decide +kernel, by decide +kernel⟩
abbrev nLeast : List Str := ["orders", "begin", "step", "right", "signs", "states", "out", "node", "layer", "known", "line", "further", "sign", "after"]
theorem least_body {f : Addr} {cdv : Value} {A : Around} {outer : List Env} {s : Shared} {H : Hp} {fs f2 : Addr} {tS tR : Hp → Prop} {cS cR : Heap → Hp → Prop} {spS spR : Sp} {os : List Od} {b : Tx} {signs : List Nat} {g : Tx → Tx → Option Tx} {ok : Tx → Tx → Bool} {r : Option Tx} {v : V} {Gd : Addr} {Q : VK}
    (DB : Df P w K mg base 4 "begun" ["orders"] spBegun) (DE : Df P w K mg base 4 "ended" ["orders", "states"] spEnded) (DU : Df P w K mg base 4 "pushed" ["orders", "states", "sign"] spPushed)
    (CS : CallV P w K mg base 5 fs tS cS spS) (CR : CallV P w K mg base 5 f2 tR cR spR) (hr : Room 5 (A.deeper (envOfC "least_line" (defScope (top 33)) s.heap.objs.size f cdv)))
    (hcS : ∀ pins σ H' s', Inv (cxOf CX0 P w K mg base nLeast "least_line" (defScope (top 33)) f cdv A outer s H E0).nox pins σ H' s' → cS s'.heap H') (hcR : ∀ pins σ H' s', Inv (cxOf CX0 P w K mg base nLeast "least_line" (defScope (top 33)) f cdv A outer s H E0).nox pins σ H' s' → cR s'.heap H')
    (hmS : ∀ H H', Ex H H' → tS H → tS H') (hmR : ∀ H H', Ex H H' → tR H → tR H') (hS : ∀ (a c : Tx) (H : Hp), a.length ≤ 4000 → c.length ≤ 6000 → SpV spS [st a, st c] H (rV (g a c))) (hR : ∀ (a c : Tx) (H : Hp), a.length ≤ 4000 → c.length ≤ 6000 → SpV spR [st a, st c] H (.bl (ok a c)))
    (hv : OdsL H v os) (htS : tS H) (htR : tR H) (hGd : H Gd = some (.lst (sgV signs))) (L : LL os b signs g ok r) (q : RetV (rV r) H Q) :
    ∃ t, PSs (cxOf CX0 P w K mg base nLeast "least_line" (defScope (top 33)) f cdv A outer s H E0).nox (defBody (top 33)) t ∧ t { nx := fun _ H' => Q .non H', rt := Q } (L2.start nLeast [v, st b, .ref fs, .ref f2, .ref Gd]) H := by
  refine ⟨_, pss_cons (ps_asg (g := g2 K 5 6) (pe_df DB hr (by decide) (by rfl) (pa_cons (pv 0) pa_nil)) (pg_tup rfl (pgs_cons (pg_name (i := 5) sc_least.nd rfl (.inl rfl)) (pgs_cons (pg_name (i := 6) sc_least.nd rfl (.inl rfl)) pgs_nil))))
    (pss_cons (ps_set (i := 7) sc_least.nd rfl (.inl rfl) (pe_tup (pa_cons (pv 5) (pa_cons (pe_callV (i := 2) CS hcS hr (by decide) rfl (.inl rfl) (pa_cons (pv 1) (pa_cons (pv 6) pa_nil))) pa_nil))))
    (pss_cons (ps_set (i := 8) sc_least.nd rfl (.inl rfl) (pe_ifExp (pt_cmpR op_notN1 (pe_ix ix_tup (pv 7) pe_int (fun _ _ => rfl)) pe_non (nomark _)) (pe_lst (pa_cons (pe_tup (pa_cons pe_str (pa_cons (pv 7) pa_nil))) pa_nil)) (pe_lst pa_nil)))
    (pss_cons (ps_set (i := 9) sc_least.nd rfl (.inl rfl) (pe_dn1 hr.units (pv 7)))
    (pss_cons (ps_while PassesOwn.never (pt_cmpR (op_neE hr.units) (pv 8) (pe_lst pa_nil) (nomark _))
      (pss_cons (ps_for (g := g2 K 10 7) PassesOwn.never rfl (pi_list (pv 8)) (pg_tup rfl (pgs_cons (pg_name (i := 10) sc_least.nd rfl (.inl rfl)) (pgs_cons (pg_name (i := 7) sc_least.nd rfl (.inl rfl)) pgs_nil)))
        (pss_one (ps_if (pt_val (pe_callV (i := 3) CR hcR hr (by decide) rfl (.inl rfl) (pa_cons (pe_ix ix_tup (pv 7) pe_int (fun _ _ => rfl)) (pa_cons (pe_df DE hr (by decide) (by rfl) (pa_cons (pv 0) (pa_cons (pe_ix ix_tup (pv 7) pe_int (fun _ _ => rfl)) pa_nil))) pa_nil)))) (pss_one (ps_ret (pv 10))) pss_nil)))
      (pss_cons (ps_set (i := 11) sc_least.nd rfl (.inl rfl) (pe_lst pa_nil))
      (pss_cons (ps_for (g := g2 K 10 7) PassesOwn.never rfl (pi_list (pv 8)) (pg_tup rfl (pgs_cons (pg_name (i := 10) sc_least.nd rfl (.inl rfl)) (pgs_cons (pg_name (i := 7) sc_least.nd rfl (.inl rfl)) pgs_nil)))
        (pss_one (ps_for PassesOwn.never rfl (pi_list (pv 4)) (pg_name (i := 12) sc_least.nd rfl (.inl rfl))
          (pss_cons (ps_asg (g := g2 K 5 6) (pe_df DU hr (by decide) (by rfl) (pa_cons (pv 0) (pa_cons (pe_ix ix_tup (pv 7) pe_int (fun _ _ => rfl)) (pa_cons (pv 12) pa_nil)))) (pg_tup rfl (pgs_cons (pg_name (i := 5) sc_least.nd rfl (.inl rfl)) (pgs_cons (pg_name (i := 6) sc_least.nd rfl (.inl rfl)) pgs_nil))))
          (pss_cons (ps_set (i := 13) sc_least.nd rfl (.inl rfl) (pe_tup (pa_cons (pv 5) (pa_cons (pe_callV (i := 2) CS hcS hr (by decide) rfl (.inl rfl) (pa_cons (pe_ix ix_tup (pv 7) pe_int (fun _ _ => rfl)) (pa_cons (pv 6) pa_nil))) pa_nil))))
          (pss_one (ps_if (PW.pt (pw_and (pt_cmpR op_notN1 (pe_ix ix_tup (pv 13) pe_int (fun _ _ => rfl)) pe_non (nomark _)) (pw_and1 (pt_cmp (pc_notInN hr.units (pv 13) (pv 9)) (by rfl)))))
            (pss_cons (ps_nput hr.units (pv 9) (pv 13))
            (pss_one (ps_expr (pe_bm PySem.F.plainAttrs_list PySem.F.slot_list_append PySem.F.type_list_append mt_append (pv 11) (pa_cons (pe_tup (pa_cons (pe_op op_add_str (pv 10) (pv 12)) (pa_cons (pv 13) pa_nil))) pa_nil))))) pss_nil)))))))
      (pss_one (ps_set (i := 8) sc_least.nd rfl (.inl rfl) (pv 11)))))))
    (pss_one (ps_ret pe_non)))))), ?_⟩
  obtain ⟨N, hres⟩ := L.res
  have z1 := L.z
  have big : sizeLine = 16777216 := sizeLine_eq
  have bz := beg_size os [] L.o
  simp only [List.length_nil] at bz
  refine q_asgN (en_call (ea_cons (ev_var rfl) ea_nil) (spn_begun hv.odsV L.o L.s (by omega))) fun s0 H1 e1 hs0 => ?_
  refine q_asgU (xs := [.ref s0, rV (g b (begM os []).2)]) (eu_tup (ea_cons (ev_var rfl) (ea_cons (ev_callV rfl hmS (hmS _ _ e1 htS) (ea_cons (ev_var rfl) (ea_cons (ev_var rfl) ea_nil)) (hS b _ H1 L.bz (by omega))) ea_nil)) len2) fun a0 H2 na e2 ha0 => ?_
  have e02 := e1.trans e2
  cases hg0 : g b (begM os []).2 with
  | none =>
    rw [hg0] at ha0
    have er : r = none := by
      unfold llM at hres
      rw [hg0] at hres
      exact (Option.some.inj hres).symm
    subst er
    refine q_asgIf (b := false) (et_test (ev_op (ev_ixT (i := 1) (ev_var rfl) ev_c (.inl ha0) rfl) ev_c (rv_notNone (r := none)))) (fun h => nomatch h) fun _ H3 e3 => ?_
    refine q_asgL (el_lst ea_nil (Nat.zero_le _)) fun L0 H4 nL e4 hL => ?_
    refine q_dnK (P := P) (w := w) (a := a0) (k := .tup [.tup ((begM os []).1.map keyMs), .none]) (fun H5 e5 => ev_var rfl) (.tup (.inl (e4 _ _ (e3 _ _ ha0))) (.cons (.tup (.inl (e4 _ _ (e3 _ _ (e2 _ _ hs0)))) (keyMss_v _)) (.cons .non .nil))) ?_ fun D H5 nD e5 hk5 => ?_
    · show max (NestedKey.depthAll ((begM os []).1.map keyMs) + 1) (max 0 0) + 1 ≤ 8
      rw [depthMss]
      decide
    refine q_while (fun m σ H' => ∃ y5 y6 y7 y9 y10 y11 y12 y13, σ = [some v, some (st b), some (.ref fs), some (.ref f2), some (.ref Gd), y5, y6, y7, some (.ref L0), y9, y10, y11, y12, y13] ∧ Ex H H' ∧ H' L0 = some (.lst [])) 0
      ⟨_, _, _, _, none, none, none, none, rfl, ((e02.trans e3).trans e4).trans e5, e5 _ _ hL⟩ fun m σ H' ⟨y5, y6, y7, y9, y10, y11, y12, y13, hσ, e, hl⟩ => ?_
    subst hσ
    refine ⟨false, et_test (ev_neE (xs := []) (ev_var rfl) (.inl hl)), (fun h => nomatch h), fun _ G1 g1 => ?_⟩
    exact s_ret ev_c fun G2 g2' => q G2 ((e.trans g1).trans g2')
  | some h0 =>
    rw [hg0] at ha0
    have hh0 : h0.length ≤ 4000 := L.gz _ _ _ L.bz hg0
    have hn0 : NrV H2 (.ref a0) ((begM os []).1, h0) := ⟨a0, s0, rfl, .inl ha0, .inl (e2 _ _ hs0)⟩
    have hlo : loopR (stepR os g) (accR os ok) signs (N + 1) [([], ((begM os []).1, h0))] [((begM os []).1, h0)] = some r := by
      unfold llM at hres
      rw [hg0] at hres
      exact hres
    refine q_asgIf (b := true) (et_test (ev_op (ev_ixT (i := 1) (ev_var rfl) ev_c (.inl ha0) rfl) ev_c (rv_notNone (r := some h0)))) (fun _ H3 e3 => ?_) fun h => nomatch h
    refine q_asgLU (xs := [st [], .ref a0]) (eu_tup (ea_cons ev_c (ea_cons (ev_var rfl) ea_nil)) len2) fun L0 t1 H4 nL e4 hL0 ht1 => ?_
    have e04 := (e02.trans e3).trans e4
    have hn4 := hn0.mono (e3.trans e4)
    refine q_dnK (P := P) (w := w) (a := a0) (k := keyNr ((begM os []).1, h0)) (fun H5 e5 => ev_var rfl) hn4.key (depthNr _) fun D H5 nD e5 hk5 => ?_
    have e05 := e04.trans e5
    have hk5' : KrV P w H5 D [((begM os []).1, h0)] := ⟨_, hk5, rfl⟩
    have nD0 : H D = none := fresh_back e04 nD
    have known_len : ∀ k : List Nr, k.Nodup → (∀ x ∈ k, RL os g h0 signs x) → k.length ≤ 8000000 := fun k h1 h2 => L.big h0 hg0 k h1 h2
    refine q_while (fun m σ H' => ∃ (x5 x6 x7 x10 x11 x12 x13 : Option V) (La : Addr) (n : Nat) (layer : LayR Nr) (known : List Nr),
        σ = [some v, some (st b), some (.ref fs), some (.ref f2), some (.ref Gd), x5, x6, x7, some (.ref La), some (.ref D), x10, x11, x12, x13] ∧ Ex H H' ∧ BR (stepR os g) (accR os ok) ((begM os []).1, h0) signs n layer known ∧ loopR (stepR os g) (accR os ok) signs m layer known = some r ∧ LyV H' La layer ∧ KrV P w H' D known)
      (N + 1)
      ⟨_, _, _, none, none, none, none, L0, 0, [([], ((begM os []).1, h0))], [((begM os []).1, h0)], rfl, e05, BR.start, hlo,
        ⟨[.ref t1], e5 _ _ hL0, .cons ⟨t1, .ref a0, rfl, .inl (e5 _ _ ht1), hn4.mono e5⟩ .nil⟩, hk5'⟩
      fun m σ H' ⟨x5, x6, x7, x10, x11, x12, x13, La, n, layer, known, hσ, e, B, hl, hlay, hkn⟩ => ?_
    subst hσ
    obtain ⟨xs, hxs, hxp⟩ := hlay
    have hxl := paired_len hxp
    refine ⟨!xs.isEmpty, et_test (ev_neE (ev_var rfl) (.inl hxs)), fun hbb G1 g1 => ?_, fun hbb G1 g1 => ?_⟩
    · have hne : layer ≠ [] := fun z => by
        rw [z] at hxl
        have : xs = [] := List.eq_nil_of_length_eq_zero hxl
        rw [this] at hbb
        cases hbb
      have hkRL : ∀ x ∈ known, RL os g h0 signs x := fun x hx => B.kn x hx
      have hfind : ∀ p, layer.find? (fun p => accR os ok p.2) = some p → r = some p.1 := fun p hp => by
        cases layer with
        | nil => exact absurd rfl hne
        | cons a as => cases m with
          | zero =>
            rw [loopR, hp] at hl
            exact (Option.some.inj hl).symm
          | succ m =>
            rw [loopR, hp] at hl
            exact (Option.some.inj hl).symm
      refine ⟨fun σ2 H2 => ∃ m2, m2 < m ∧ ∃ (x5 x6 x7 x10 x11 x12 x13 : Option V) (La : Addr) (n : Nat) (layer : LayR Nr) (known : List Nr),
        σ2 = [some v, some (st b), some (.ref fs), some (.ref f2), some (.ref Gd), x5, x6, x7, some (.ref La), some (.ref D), x10, x11, x12, x13] ∧ Ex H H2 ∧ BR (stepR os g) (accR os ok) ((begM os []).1, h0) signs n layer known ∧ loopR (stepR os g) (accR os ok) signs m2 layer known = some r ∧ LyV H2 La layer ∧ KrV P w H2 D known, fun _ _ h => h, ?_⟩
      -- the first loop: is one of the level right
      refine q_forL (a := La) (xs := xs) (ev_var rfl) (rd_l (.inl (g1 _ _ hxs))) (fun i σ H'' => ∃ (x5 x6 x7 x10 x11 x12 x13 : Option V),
          σ = [some v, some (st b), some (.ref fs), some (.ref f2), some (.ref Gd), x5, x6, x7, some (.ref La), some (.ref D), x10, x11, x12, x13] ∧ Ex H' H'' ∧ ∀ p ∈ layer.take i, accR os ok p.2 = false)
        (fun G2 g2' => ⟨x5, x6, x7, x10, x11, x12, x13, rfl, g1.trans g2', fun p hp => by rw [List.take_zero] at hp; cases hp⟩)
        (fun i σ H'' _ ⟨_, _, _, _, _, _, _, _, h, _⟩ => rd_l (.inl (h _ _ hxs)))
        (fun i x σ H'' hx ⟨x5, x6, x7, x10, x11, x12, x13, hσ, eH, hno⟩ => ?_) (fun σ H'' ⟨x5, x6, x7, x10, x11, x12, x13, hσ, eH, hno⟩ => ?_)
      · subst hσ
        obtain ⟨p, hpi, ax, nv, rfl, hax, hnv⟩ := paired_get hxp hx
        refine g2_ofR (ex_rd eH hax) ?_
        have hpm : p ∈ layer := List.mem_of_getElem? hpi
        obtain ⟨pl, po, pr⟩ := B.lay p hpm
        have hprl : RL os g h0 signs p.2 := ⟨p.1, po, pr⟩
        obtain ⟨ok1, ok2, ok3⟩ := rl_ok L hh0 hprl
        obtain ⟨an, sn, rfl, han, hsn⟩ := hnv.mono eH
        have ez := psem_size os p.2.1 [] L.o ok1
        simp only [List.length_nil] at ez
        have ez' : (endM os p.2.1).length ≤ 6000 := by show (psemM os p.2.1 []).length ≤ 6000; omega
        have eHH := e.trans eH
        refine s_when (b := accR os ok p.2) (et_B (ev_callV rfl hmR (hmR _ _ eHH htR) (ea_cons (ev_ixT (i := 1) (ev_var rfl) ev_c han rfl) (ea_cons (ev_call (ea_cons (ev_var rfl) (ea_cons (ev_ixT (i := 0) (ev_var rfl) ev_c han rfl) ea_nil)) (spv_ended (hv.mono eHH).odsV ⟨sn, rfl, hsn⟩ L.o L.s ok1 ok2 (by omega))) ea_nil)) (hR p.2.2 (endM os p.2.1) H'' ok3 ez'))) (fun hb G2 g2' => ?_) fun hb G2 g2' => ?_
        · have hf : layer.find? (fun p => accR os ok p.2) = some p := by
            have hd := drop_at hpi
            rw [← List.take_append_drop i layer, List.find?_append, hd]
            have : (layer.take i).find? (fun p => accR os ok p.2) = none := List.find?_eq_none.mpr fun y hy => by rw [hno y hy]; decide
            rw [this, List.find?_cons, hb]
            rfl
          have er := hfind p hf
          subst er
          exact s_ret (ev_var rfl) fun G3 g3 => q G3 ((eHH.trans g2').trans g3)
        · refine ⟨_, _, _, _, _, _, _, rfl, eH.trans g2', fun y hy => ?_⟩
          rw [List.take_add_one, hpi] at hy
          rcases List.mem_append.mp hy with hy | hy
          · exact hno y hy
          · have : y = p := by simpa using hy
            rw [this]
            exact hb
      · subst hσ
        have hno' : ∀ p ∈ layer, accR os ok p.2 = false := fun p hp => hno p (by rw [hxl, List.take_length]; exact hp)
        have hfn : layer.find? (fun p => accR os ok p.2) = none := List.find?_eq_none.mpr fun y hy => by rw [hno' y hy]; decide
        obtain ⟨m', rfl, hR'⟩ : ∃ m', m = m' + 1 ∧ loopR (stepR os g) (accR os ok) signs m' (layerR (stepR os g) signs layer known []).2 (layerR (stepR os g) signs layer known []).1 = some r := by
          cases layer with
          | nil => exact absurd rfl hne
          | cons a as => cases m with
            | zero => rw [loopR, hfn] at hl; cases hl
            | succ m => rw [loopR, hfn] at hl; exact ⟨m, rfl, hl⟩
        refine q_asgL (el_lst ea_nil (Nat.zero_le _)) fun Fu G2 nF g2' hF => ?_
        have g02 := eH.trans g2'
        have nF0 : H Fu = none := fresh_back (e.trans eH) nF
        have FL : La ≠ Fu := ne_of_none (eH _ _ hxs) nF
        have n8 : n + 1 ≤ 8000001 := by
          have := known_len known B.nd hkRL
          rcases B.lv with z | z
          · exact absurd z hne
          · omega
        refine q_forL (a := La) (xs := xs) (ev_var rfl) (rd_l (.inl (g02 _ _ hxs))) (fun i σ H' => ∃ (x5 x6 x7 x10 x12 x13 : Option V) (k : List Nr) (f : LayR Nr),
            σ = [some v, some (st b), some (.ref fs), some (.ref f2), some (.ref Gd), x5, x6, x7, some (.ref La), some (.ref D), x10, some (.ref Fu), x12, x13] ∧ Ex H H' ∧ H' La = some (.lst xs) ∧ Paired (PW H') xs layer ∧ KrV P w H' D k ∧ LyV H' Fu f ∧
            layerR (stepR os g) signs (layer.drop i) k f = layerR (stepR os g) signs layer known [] ∧ k.Nodup ∧ (∀ x ∈ k, RL os g h0 signs x) ∧ f.length ≤ k.length)
          (fun G3 g3 => ⟨_, _, _, _, _, _, known, [], rfl, (e.trans g02).trans g3, g3 _ _ (g02 _ _ hxs), L2.Paired.mapP hxp fun _ _ z => z.t (Ex.t (g02.trans g3)), hkn.mono (g02.trans g3), ⟨[], g3 _ _ hF, .nil⟩, rfl, B.nd, hkRL, Nat.zero_le _⟩)
          (fun i σ H' _ ⟨_, _, _, _, _, _, _, _, _, _, h, _⟩ => rd_l (.inl h))
          (fun i x σ H' hx ⟨x5, x6, x7, x10, x12, x13, k, f, hσ, eH, hL, hpv, hK, hFu, hly, hnd, hrn, hfk⟩ => ?_) (fun σ H' ⟨x5, x6, x7, x10, x12, x13, k, f, hσ, eH, hL, hpv, hK, hFu, hly, hnd, hrn, hfk⟩ => ?_)
        · subst hσ
          obtain ⟨p, hpi, ax, nv, rfl, hax, hnv⟩ := paired_get hpv hx
          refine g2_ofR hax ?_
          have hpm : p ∈ layer := List.mem_of_getElem? hpi
          obtain ⟨pl, po, pr⟩ := B.lay p hpm
          have hprl : RL os g h0 signs p.2 := ⟨p.1, po, pr⟩
          obtain ⟨ok1, ok2, ok3⟩ := rl_ok L hh0 hprl
          have hd := drop_at hpi
          rw [hd] at hly
          have hly' : layerR (stepR os g) signs (layer.drop (i + 1)) (signR (stepR os g) p.1 p.2 signs k f).1 (signR (stepR os g) p.1 p.2 signs k f).2 = layerR (stepR os g) signs layer known [] := hly
          have hG0 := eH _ _ hGd
          refine s_forLn (a := Gd) (xs := sgV signs) (ev_var rfl) (rd_l (.inl hG0)) (fun j σ H' => ∃ (x5 x6 x12 x13 : Option V) (k' : List Nr) (f' : LayR Nr),
            σ = [some v, some (st b), some (.ref fs), some (.ref f2), some (.ref Gd), x5, x6, some nv, some (.ref La), some (.ref D), some (st p.1), some (.ref Fu), x12, x13] ∧ Ex H H' ∧ H' La = some (.lst xs) ∧ Paired (PW H') xs layer ∧ NrV H' nv p.2 ∧ KrV P w H' D k' ∧ LyV H' Fu f' ∧
            signR (stepR os g) p.1 p.2 (signs.drop j) k' f' = signR (stepR os g) p.1 p.2 signs k f ∧ k'.Nodup ∧ (∀ x ∈ k', RL os g h0 signs x) ∧ f'.length ≤ k'.length)
            (fun G3 g3 => ⟨_, _, _, _, k, f, rfl, eH.trans g3, g3 _ _ hL, L2.Paired.mapP hpv fun _ _ z => z.t (Ex.t g3), hnv.mono g3, hK.mono g3, hFu.mono g3, rfl, hnd, hrn, hfk⟩)
            (fun j σ H' _ ⟨_, _, _, _, _, _, _, h, _⟩ => rd_l (.inl (h _ _ hGd)))
            (fun j y σ H' hy ⟨x5, x6, x12, x13, k', f', hσ, eH, hL, hpv, hnv, hK, hFu, hsl, hnd, hrn, hfk⟩ => ?_) (fun σ H' ⟨x5, x6, x12, x13, k', f', hσ, eH, hL, hpv, hnv, hK, hFu, hsl, hnd, hrn, hfk⟩ => ?_)
          · subst hσ
            obtain ⟨c, hcj, rfl⟩ : ∃ c, signs[j]? = some c ∧ y = st [c] := by
              rw [List.getElem?_map] at hy
              cases hc : signs[j]? with
              | none => rw [hc] at hy; cases hy
              | some c => rw [hc] at hy; cases hy; exact ⟨c, rfl, rfl⟩
            have hcm : c ∈ signs := List.mem_of_getElem? hcj
            have hc : c ∈ SG := L.sg c hcm
            have hcs := drop_at hcj
            rw [hcs] at hsl
            obtain ⟨an, sn, rfl, han, hsn⟩ := id hnv
            have psz := push_size os p.2.1 [c] L.o ok1
            simp only [List.length_cons, List.length_nil] at psz
            refine q_asgN (en_call (ea_cons (ev_var rfl) (ea_cons (ev_ixT (i := 0) (ev_var rfl) ev_c han rfl) (ea_cons (ev_var rfl) ea_nil))) (spn_pushed (u := [c]) (hv.mono eH).odsV ⟨sn, rfl, hsn⟩ L.o L.s ok1 ok2 (AllSg.one hc) (by simp only [List.length_cons, List.length_nil]; omega))) fun s1 K1 k1 hs1 => ?_
            have han1 := ex_rd k1 han
            refine q_asgU (xs := [.ref s1, rV (g p.2.2 (pushM os p.2.1 [c]).2)]) (eu_tup (ea_cons (ev_var rfl) (ea_cons (ev_callV rfl hmS (hmS _ _ (eH.trans k1) htS) (ea_cons (ev_ixT (i := 1) (ev_var rfl) ev_c han1 rfl) (ea_cons (ev_var rfl) ea_nil)) (hS p.2.2 _ K1 ok3 (by omega))) ea_nil)) len2) fun a2 K3 na2 k3 ha2 => ?_
            have k03 := k1.trans k3
            have eH3 := eH.trans k03
            have hkl := known_len k' hnd hrn
            have DL : ∀ {G : Hp} {zs : List V} {a : Addr} {o : List Nr}, KrV P w G D o → G a = some (.lst zs) → a ≠ D := fun ⟨kas, kn, _⟩ ha => ne_of ha kn.1 (fun z => nomatch z)
            cases hgs : g p.2.2 (pushM os p.2.1 [c]).2 with
            | none =>
              rw [hgs] at ha2
              have est : stepR os g p.2 c = none := by unfold stepR; rw [hgs]; rfl
              rw [signR, est] at hsl
              dsimp only at hsl
              refine s_when (b := false && true) (et_and (a := false) (b := true) (et_test (ev_op (ev_ixT (i := 1) (ev_var rfl) ev_c (.inl ha2) rfl) ev_c (rv_notNone (r := none)))) fun h => nomatch h) (fun h => nomatch h) fun _ K4 k4 => ?_
              have k04 := k03.trans k4
              exact ⟨_, _, _, _, k', f', rfl, eH.trans k04, k04 _ _ hL, L2.Paired.mapP hpv fun _ _ z => z.t (Ex.t k04), hnv.mono k04, hK.mono k04, hFu.mono k04, hsl, hnd, hrn, hfk⟩
            | some hh =>
              rw [hgs] at ha2
              have est : stepR os g p.2 c = some ((pushM os p.2.1 [c]).1, hh) := by unfold stepR; rw [hgs]; rfl
              rw [signR, est] at hsl
              dsimp only at hsl
              have hn2 : NrV K3 (.ref a2) ((pushM os p.2.1 [c]).1, hh) := ⟨a2, s1, rfl, .inl ha2, .inl (k3 _ _ hs1)⟩
              have hrn2 := rl_step hprl hcm est
              refine s_when (b := true && !decide (((pushM os p.2.1 [c]).1, hh) ∈ k')) (et_and (a := true) (et_test (ev_op (ev_ixT (i := 1) (ev_var rfl) ev_c (.inl ha2) rfl) ev_c (rv_notNone (r := some hh)))) fun _ => et_B (ev_notInR (ev_var rfl) (ev_var rfl) (hK.mono k03) hn2)) (fun hin K5 k5 => ?_) fun hin K5 k5 => ?_
              · have hin' : ((pushM os p.2.1 [c]).1, hh) ∉ k' := by simpa using hin
                have hsl2 : signR (stepR os g) p.1 p.2 (signs.drop (j + 1)) (k' ++ [((pushM os p.2.1 [c]).1, hh)]) (f' ++ [(p.1 ++ [c], ((pushM os p.2.1 [c]).1, hh))]) = signR (stepR os g) p.1 p.2 signs k f := by
                  rw [← hsl, if_neg hin']
                have k05 := k03.trans k5
                refine q_nputR (P := P) (w := w) (d := D) (a := a2) (k := k') (nd := ((pushM os p.2.1 [c]).1, hh)) (ev_var rfl) (ev_var rfl) (hK.mono k05) (hn2.mono k5) hin' (by rw [big]; omega) fun K6 o k6 hM hK6 => ?_
                have k06 := k05.trans k6
                obtain ⟨fs', hfs, hfp⟩ := hFu
                have hK0 := hK.mono k06
                have dL := DL hK0 (k06 _ _ hL)
                have dF := DL hK0 (k06 _ _ hfs)
                have et : ExT H' (upd K6 D o) := (Ex.t k06).trans (ExT.mut hM)
                have e0 : Ex H (upd K6 D o) := (eH.trans k06).mut nD0
                have fl := paired_len hfp
                refine s_appUZ (l := Fu) (xs := fs') (ys := [st (p.1 ++ [c]), .ref a2]) (by rw [upd_ne dF]; exact k06 _ _ hfs) (ev_var rfl) (eu_tup (ea_cons (ev_op (ev_var rfl) (ev_var rfl) (rv_addS (a := p.1) (b := [c]) (by rw [pl, big]; simp only [List.length_cons, List.length_nil]; omega))) (ea_cons (ev_var rfl) ea_nil)) len2) (by rw [big]; omega) fun b' K7 nb k7 hb7 => ?_
                have hF7 : K7 Fu = some (.lst fs') := k7 _ _ (by rw [upd_ne dF]; exact k06 _ _ hfs)
                have hM7 : Mut (K7 Fu) := by rw [hF7]; exact True.intro
                have et7 : ExT H' (upd K7 Fu (.lst (fs' ++ [.ref b']))) := (et.trans (Ex.t k7)).trans (ExT.mut hM7)
                have etK7 : ExT K7 (upd K7 Fu (.lst (fs' ++ [.ref b']))) := ExT.mut hM7
                have hn7 : NrV K7 (.ref a2) ((pushM os p.2.1 [c]).1, hh) := (((hn2.mono (k5.trans k6)).t (ExT.mut hM)).mono k7)
                have hKD := hK6.mono k7
                refine ⟨_, _, _, _, k' ++ [((pushM os p.2.1 [c]).1, hh)], f' ++ [(p.1 ++ [c], ((pushM os p.2.1 [c]).1, hh))], rfl, (e0.trans k7).mut nF0, ?_, L2.Paired.mapP hpv fun _ _ z => z.t et7, hnv.t et7, hKD.t etK7 (upd_ne (Ne.symm (DL hKD hF7))), ⟨fs' ++ [.ref b'], upd_same, paired_app (L2.Paired.mapP hfp fun _ _ z => z.t et7) (.cons ⟨b', .ref a2, rfl, etK7 _ _ (.inl hb7), hn7.t etK7⟩ .nil)⟩, hsl2, ?_, fun x hx => ?_, ?_⟩
                · rw [upd_ne FL]
                  exact k7 _ _ (by rw [upd_ne dL]; exact k06 _ _ hL)
                · rw [List.nodup_append]
                  refine ⟨hnd, by simp, fun a ha b hb => ?_⟩
                  rw [List.mem_singleton.mp hb]
                  exact fun e => hin' (e ▸ ha)
                · rcases List.mem_append.mp hx with hx | hx
                  · exact hrn x hx
                  · rw [List.mem_singleton.mp hx]; exact hrn2
                · rw [List.length_append, List.length_append]
                  simp only [List.length_cons, List.length_nil]
                  omega
              · have hin' : ((pushM os p.2.1 [c]).1, hh) ∈ k' := by simpa using hin
                have hsl2 : signR (stepR os g) p.1 p.2 (signs.drop (j + 1)) k' f' = signR (stepR os g) p.1 p.2 signs k f := by
                  rw [← hsl, if_pos hin']
                have k05 := k03.trans k5
                exact ⟨_, _, _, _, k', f', rfl, eH.trans k05, k05 _ _ hL, L2.Paired.mapP hpv fun _ _ z => z.t (Ex.t k05), hnv.mono k05, hK.mono k05, hFu.mono k05, hsl2, hnd, hrn, hfk⟩
          · subst hσ
            have hle : (sgV signs).length = signs.length := List.length_map _
            rw [hle, List.drop_length] at hsl
            have hsl2 : signR (stepR os g) p.1 p.2 signs k f = (k', f') := hsl.symm
            rw [hsl2] at hly'
            exact ⟨_, _, _, _, _, _, k', f', rfl, eH, hL, hpv, hK, hFu, hly', hnd, hrn, hfk⟩
        · subst hσ
          rw [hxl, List.drop_length] at hly
          have hok : layerR (stepR os g) signs layer known [] = (k, f) := hly.symm
          have hbn := (B.next hne hno').1
          rw [hok] at hR' hbn
          refine s_asg (ev_var rfl) fun G3 g3 => ⟨m', Nat.lt_succ_self m', _, _, _, _, _, _, _, Fu, n + 1, f, k, rfl, eH.trans g3, hbn, hR', hFu.mono g3, hK.mono g3⟩
    · have hnil : layer = [] := by
        cases xs with
        | nil => exact List.eq_nil_of_length_eq_zero hxl.symm
        | cons a b => cases hbb
      subst hnil
      have er : r = none := by cases m <;> exact (Option.some.inj hl).symm
      subst er
      exact s_ret ev_c fun G2 g2' => q G2 ((e.trans g1).trans g2')
end
end Ev
set_option Elab.async false
set_option linter.all false
set_option maxRecDepth 100000
set_option maxHeartbeats 4000000
namespace Ev
open PySem PySem.Spec PyProof.Rows L2 Evl StX LamX NdefX
/-! ### all but the tables stay -/
section
variable {H H' H'' : Hp} {v : V} {a : Addr} {u : HO}
theorem rd_n (e : ExtN H H') (h : Rd H a u) (hu : ∀ ps, u ≠ .tbl ps) : Rd H' a u := by
  rcases h with h | ⟨o, h⟩
  · exact .inl (e _ _ h hu)
  · exact .inr ⟨o, e _ _ h fun ps z => nomatch z⟩
theorem ExtN.t (e : ExtN H H') : ExT H H' := fun a xs h => rd_n e h fun ps z => nomatch z
theorem Ex.n (e : Ex H H') : ExtN H H' := ExtN.of e
theorem PairV.n {p : Nat × Nat} (e : ExtN H H') (h : PairV H v p) : PairV H' v p := let ⟨a, h1, h2⟩ := h; ⟨a, h1, ExtN.t e _ _ h2⟩
theorem OdV.n {o : Od} (e : ExtN H H') (h : OdV H v o) : OdV H' v o := by
  cases o with
  | letters ps =>
    obtain ⟨a, l, vs, h1, h2, h3, h4⟩ := h
    exact ⟨a, l, vs, h1, ExtN.t e _ _ h2, rd_n e h3 (fun ps z => nomatch z), L2.Paired.mapP h4 fun x y z => PairV.n e z⟩
  | _ => exact let ⟨a, h1, h2⟩ := h; ⟨a, h1, ExtN.t e _ _ h2⟩
theorem OdsL.n {os : List Od} (e : ExtN H H') (h : OdsL H v os) : OdsL H' v os := by
  obtain ⟨a, vs, h1, h2, h3⟩ := h
  exact ⟨a, vs, h1, e _ _ h2 (fun ps z => nomatch z), L2.Paired.mapP h3 fun x y z => OdV.n e z⟩
theorem tabs_ex {T : List NTab} (e : Ex H H') (h : TabsN T H) : TabsN T H' := h.ext e
end
/-! ### a def whose code object is known -/
def AtC (K : PySem.W.Frag) (mg : Str → Option Value) (i : Nat) (x : Str) (c : Addr) : Prop :=
  ∃ (f : Addr) (oc : Value) (od : Option Addr) (dV kV doc pm : Value) (an : Option Addr) (ct : Value) (osl : Array (Option Value)), mg x = some (.ref f) ∧
    K.lookup f = some ⟨oc, od, .func (PySem.W.fnOf x x (defArgs (top i)) (defBody (top i)) (defScope (top i)) dV kV doc pm an (.ref c) ct), osl⟩ ∧ PySem.W.codeIn K (.ref c) x = true ∧ DflV K dV [] ∧ KwdV K kV [] ∧ PySem.W.keepIn K (.ref f) = true
section
variable {P : Program} {w : World} {K : PySem.W.Frag} {mg : Str → Option Value} {base : Heap} {x : Str} {ps N : List Str} {sp : Sp} {k i : Nat} {c : Addr}
theorem Df.madeC (F : AtC K mg i x c) (Sc : FnScope N ps (defScope (top i)))
    (hb : ∀ (kV doc pm : Value) (an : Option Addr) (cdv ct : Value) (us : List Value), us.length = ps.length → bindArgs (PySem.W.fnOf x x (defArgs (top i)) (defBody (top i)) (defScope (top i)) .none kV doc pm an cdv ct) ⟨us, []⟩ = pure (ps.zip us))
    (len : ∀ vs H Q E, sp vs H Q E → vs.length = ps.length)
    (hbody : ∀ (f : Addr) (A : Around) (outer : List Env) (s : Shared) (H : Hp) (vs : List V) (Q : VK) (E : XK), Room k (A.deeper (envOfC x (defScope (top i)) s.heap.objs.size f (.ref c))) → sp vs H Q E →
      ∃ t, PSs (cxOf CX0 P w K mg base N x (defScope (top i)) f (.ref c) A outer s H E).nox (defBody (top i)) t ∧ t { nx := fun _ H' => Q .non H', rt := Q } (L2.start N vs) H) : Df P w K mg base (k + 1) x ps sp := by
  obtain ⟨f, oc, od, dV, kV, doc, pm, an, ct, osl, g, lk, hcd, hd, hk, kp⟩ := F
  have FD : FunD K x x (defArgs (top i)) (defBody (top i)) (defScope (top i)) [] [] f _ := ⟨⟨oc, od, dV, kV, doc, pm, an, .ref c, ct, osl, rfl, lk, hcd, hd, hk⟩, kp⟩
  exact ⟨f, _, fn_of lk hcd Sc len fun A outer s H vs Q E hr h => let ⟨t, h1, h2⟩ := hbody f A outer s H vs Q E hr h; ⟨t, h1.nox, h2⟩, g, kp, FD.bindsN hb, i, FD⟩
end
/-! ### the nested functions -/
def nmT : Nat → Nat → Str := fun line _ => if line = 202 then "source.<locals>.step" else if line = 204 then "source.<locals>.<lambda>" else if line = 210 then "shows.<locals>.step" else "shows.<locals>.<lambda>"
def stepA : Stmt := (defBody (top 34)).getD 2 (.Pass ⟨0, 0, 0, 0⟩)
def stepB : Stmt := (defBody (top 35)).getD 2 (.Pass ⟨0, 0, 0, 0⟩)
def lamIn : Stmt → Expr
  | .Return (some (.Call _ args _ _)) _ => args.getD 3 (.Constant .none 0 ⟨0, 0, 0, 0⟩)
  | _ => .Constant .none 0 ⟨0, 0, 0, 0⟩
def lamA : Expr := lamIn ((defBody (top 34)).getD 3 (.Pass ⟨0, 0, 0, 0⟩))
def lamB : Expr := lamIn ((defBody (top 35)).getD 3 (.Pass ⟨0, 0, 0, 0⟩))
def lamP : Expr → Arguments
  | .Lambda p _ _ _ => p
  | _ => ⟨[], [], none, [], [], none, []⟩
def lamBody : Expr → Expr
  | .Lambda _ b _ _ => b
  | e => e
def lamS : Expr → Scope
  | .Lambda _ _ s _ => s
  | _ => defScope (top 34)
abbrev LF.of (e : Expr) (qual : Str) (cl : List (Str × Addr)) (c : Addr) : LF := ⟨qual, lamP e, lamBody e, lamS e, cl, c⟩
section
variable {P : Program} {w : World} {K : PySem.W.Frag} {mg : Str → Option Value} {base : Heap}
theorem nsA : nscB ["rest", "out"] ["rest", "out"] [] (C8.fnScope stepA) = true := by decide +kernel
theorem nsLA : nscB ["rest", "out"] ["rest", "out"] [] (lamS lamA) = true := by decide +kernel
theorem cells_nil {h : Heap} {H : Hp} : CellsAt [] [] [] h H := ⟨rfl, (fun y c e => absurd e (by simp)), (fun x y c e => absurd e (by simp)), (fun i y e => absurd e (by simp))⟩
/-- the promise of a step: two texts, a text or None -/
def spStep (g : Tx → Tx → Option Tx) : Sp := fun vs H Q _ => ∃ a b : Tx, vs = [st a, st b] ∧ a.length ≤ 4000 ∧ b.length ≤ 6000 ∧ RetV (rV (g a b)) H Q
def spOkB (ok : Tx → Tx → Bool) : Sp := fun vs H Q _ => ∃ a b : Tx, vs = [st a, st b] ∧ a.length ≤ 4000 ∧ b.length ≤ 6000 ∧ RetV (.bl (ok a b)) H Q
theorem spv_step {g : Tx → Tx → Option Tx} (a c : Tx) (H : Hp) (h1 : a.length ≤ 4000) (h2 : c.length ≤ 6000) : SpV (spStep g) [st a, st c] H (rV (g a c)) := spv_of fun H1 e Q E q => ⟨a, c, rfl, h1, h2, q⟩
theorem spv_okB {ok : Tx → Tx → Bool} (a c : Tx) (H : Hp) (h1 : a.length ≤ 4000) (h2 : c.length ≤ 6000) : SpV (spOkB ok) [st a, st c] H (.bl (ok a c)) := spv_of fun H1 e Q E q => ⟨a, c, rfl, h1, h2, q⟩
theorem callV_stepA (G : Gb mg) {f c' : Addr} {qual : Str} : CallV P w K mg base 1 f (fun H => H f = some (FnO f (NF.of stepA "step" qual [] c')) ∧ H c' = some (CodeO c' qual)) (fun h H => CellsAt [] [] [] h H) (spStep srcG) := by
  refine callV_def (F := NF.of stepA "step" qual [] c') (ps := ["rest", "out"]) (fr := []) (ws := []) (sp := fun _ => spStep srcG) (nok_of (N := ["rest", "out"]) (k := 0) (nscope_by nsA) (fun doc pm ctv us hl => match us, hl with | [_, _], _ => rfl) (fun ws vs H Q E h => ?_) fun A outer s H vs ws Q E hr _ _ hw h => ?_)
  · obtain ⟨a, b, rfl, _⟩ := h; rfl
  refine ⟨_, pss_one (ps_ret (pe_ifExp (pt_val (pe_m1 PySem.F.slot_str_startswith PySem.F.type_str_startswith mt_startswith (pv 0) (pv 1))) (pe_slice sl_str (pv 0) (po_some (pe_callB call_len_str (by rfl) G.len bi_len (pa_cons (pv 1) pa_nil))) po_none) pe_non)), ?_⟩
  obtain ⟨a, b, rfl, h1, h2, q⟩ := h
  refine s_ret (v := rV (srcG a b)) (ev_if (b := b.isPrefixOf a) (et_B (ev_starts (ev_var rfl) (ev_var rfl))) (fun hb => ?_) (fun hb => ?_)) q
  · unfold srcG
    rw [if_pos hb]
    exact ev_slS (x := a) (lo := some (b.length : Int)) (hi := none) (ev_var rfl) (eo_some (ev_lenS (ev_var rfl) (small (by omega)))) eo_none (small (by omega)) cutS_from
  · unfold srcG
    rw [if_neg (by rw [hb]; decide)]
    exact ev_c
theorem callV_lamA {f c' : Addr} {qual : Str} : CallV P w K mg base 1 f (fun H => H f = some (FnL f (LF.of lamA qual [] c')) ∧ H c' = some (CodeO c' qual)) (fun h H => CellsAt [] [] [] h H) (spOkB srcOk) := by
  refine callV_lam (L := LF.of lamA qual [] c') (N := ["rest", "out"]) (ps := ["rest", "out"]) (fr := []) (ws := []) (k := 0) (nscope_by nsLA) (fun pm ctv us hl => match us, hl with | [_, _], _ => rfl) (fun vs H Q E h => ?_) fun A outer s H vs Q E hr hw h => ?_
  · obtain ⟨a, b, rfl, _⟩ := h; rfl
  refine ⟨_, pe_cmpR op_eq (pv 0) (pv 1) (nomark _), ?_⟩
  obtain ⟨a, b, rfl, h1, h2, q⟩ := h
  exact (ev_op (ev_var rfl) (ev_var rfl) (rv_eqS (a := a) (b := b))) H (Ex.refl H) _ q
end
theorem CallV.mono {P : Program} {w : World} {K : PySem.W.Frag} {mg : Str → Option Value} {base : Heap} {k j : Nat} {f : Addr} {tr : Hp → Prop} {cells : Heap → Hp → Prop} {sp : Sp} (C : CallV P w K mg base j f tr cells sp) (h : j ≤ k) : CallV P w K mg base k f tr cells sp :=
  ⟨C.at_, fun A outer s H us vs Q E hr => C.run A outer s H us vs Q E (hr.mono h)⟩
/-! ### source -/
section
variable {P : Program} {w : World} {K : PySem.W.Frag} {mg : Str → Option Value} {base : Heap}
theorem sc_source : FnScope ["orders", "line", "step"] ["orders", "line"] (defScope (top 34)) := ⟨rfl, rfl, rfl, by decide +kernel, rfl, by decide +kernel, by decide +kernel⟩
/-- what source and shows may be asked -/
structure One (os : List Od) (x : Tx) : Prop where
  o : OkOs os
  s : SgOs os
  z : pow3 os ≤ 1000
  ax : AllSg x
  xz : x.length ≤ 1000
  nn : nn os * (x.length + 1) ≤ 8000000
theorem src_big {os : List Od} {x : Tx} (T : One os x) : ∀ h0, srcG x (begM os []).2 = some h0 → ∀ k : List Nr, k.Nodup → (∀ y ∈ k, ∃ w, Over (signsM os x 1) w ∧ runR (stepR os srcG) ((begM os []).1, h0) w = some y) → k.length ≤ 8000000 := fun h0 e0 k hn hk => by
  have hN := rows_le T.o T.s (g := srcG) (h0 := h0) (signs := signsM os x 1) (signs_sg os x 1) ((List.range (x.length + 1)).map fun i => x.drop i) (fun w _ y hy => by
      have := (src_run e0 w).1 y hy
      refine List.mem_map.mpr ⟨(cfg os w).2.length, List.mem_range.mpr ?_, ?_⟩
      · rw [this, List.length_append]; omega
      · rw [this, List.drop_left' rfl]) k hn hk
  rw [List.length_map, List.length_range] at hN
  exact Nat.le_trans hN T.nn
theorem ll_src {os : List Od} {x : Tx} {r : Option Tx} (T : One os x) (h : srcM os x = some r) : LL os x (signsM os x 1) srcG srcOk r where
  o := T.o
  s := T.s
  z := T.z
  sg := signs_sg os x 1
  bz := Nat.le_trans T.xz (show 1000 ≤ 4000 by decide)
  gz := fun a c h ha e => by
    have := srcG_some e
    have e2 := congrArg List.length this
    rw [List.length_append] at e2
    omega
  res := ⟨_, h⟩
  big := src_big T
def spSource (T : List NTab) : Sp := fun vs H Q _ => ∃ (v : V) (os : List Od) (x : Tx) (r : Option Tx), vs = [v, st x] ∧ OdsL H v os ∧ TabsN T H ∧ One os x ∧ srcM os x = some r ∧ (∀ H2, ExtN H H2 → TabsN T H2 → Q (rV r) H2)
/-- what least_line is handed by source -/
def PhA (σ : L2.St) (vs : List V) (H : Hp) (Q : VK) : Prop := ∃ (v : V) (os : List Od) (x : Tx) (r : Option Tx) (f c1 f2 c2 Gd : Addr), vs = [v, st x, .ref f, .ref f2, .ref Gd] ∧ OdsL H v os ∧ One os x ∧ srcM os x = some r ∧
  (H f = some (FnO f (NF.of stepA "step" "source.<locals>.step" [] c1)) ∧ H c1 = some (CodeO c1 "source.<locals>.step")) ∧ (H f2 = some (FnL f2 (LF.of lamA "source.<locals>.<lambda>" [] c2)) ∧ H c2 = some (CodeO c2 "source.<locals>.<lambda>")) ∧ H Gd = some (.lst (sgV (signsM os x 1))) ∧ RetV (rV r) H Q
theorem ok_source {T : List NTab} {c1 P1 : Addr} (F : AtC K mg 34 "source" c1) (F33 : At K mg 33 "least_line") (G : Gb mg) (TB : TabB base mg c1 P1) (hm : (P1, nmT) ∈ T) (hu : ∀ p ∈ T, p.1 = P1 → p.2 = nmT)
    (DC : Df P w K mg base 5 "check_orders" ["value"] spCheckO) (DL : Df P w K mg base 2 "check_line" ["value"] spCheckL) (DS : Df P w K mg base 2 "signs_for" ["orders", "word", "more"] spSignsFor)
    (DB : Df P w K mg base 4 "begun" ["orders"] spBegun) (DE : Df P w K mg base 4 "ended" ["orders", "states"] spEnded) (DU : Df P w K mg base 4 "pushed" ["orders", "states", "sign"] spPushed) :
    Df P w K mg base 7 "source" ["orders", "line"] (spSource T) := by
  refine Df.madeC (N := ["orders", "line", "step"]) F sc_source (fun _ _ _ _ _ _ us hl => match us, hl with | [_, _], _ => rfl) (fun vs H Q E h => ?_) (fun f A outer s H vs Q E hr h => ?_)
  · obtain ⟨v, os, x, r, rfl, _⟩ := h; rfl
  refine ⟨_, pss_cons (ps_expr (pe_df DC hr (by decide) (by rfl) (pa_cons (pv 0) pa_nil))) (pss_cons (ps_expr (pe_df DL hr (by decide) (by rfl) (pa_cons (pv 1) pa_nil)))
    (pss_cons (ps_ndefS (st := stepA) (i := 2) (T := T) (P := P1) rfl TB rfl hm rfl hu (fun y hy e => absurd e (by revert y; decide +kernel)) rfl rfl rfl sc_source.nd rfl (.inl rfl) (.inr rfl))
    (pss_one (ps_ret (pe_callS (k := 5) (N := nLeast) (Φ := PhA) (cells := fun _ _ _ => True) F33 sc_least (fun _ _ _ _ _ _ us hl => match us, hl with | [_, _, _, _, _], _ => rfl) (fun σ vs H Q h => ?_) hr (by decide) (by rfl)
      (pa_cons (pv 0) (pa_cons (pv 1) (pa_cons (pv 2) (pa_cons (pe_lamN (T := T) (P := P1) TB rfl hm rfl hu rfl (fun y hy e => absurd e (by revert y; decide +kernel))) (pa_cons (pe_df DS hr (by decide) (by rfl) (pa_cons (pv 0) (pa_cons (pv 1) (pa_cons pe_int pa_nil)))) pa_nil)))))
      (fun _ _ _ _ _ => trivial) (fun f cdv A outer s σ H vs Q hr _ h => ?_)))))), ?_⟩
  · obtain ⟨v, os, x, r, f, c1, f2, c2, Gd, rfl, _⟩ := h; rfl
  · obtain ⟨v, os, x, r, fs, c1', f2, c2, Gd, rfl, hv, T1, hsr, hf, hf2, hG, q⟩ := h
    exact least_body DB DE DU ((callV_stepA G).mono (by decide)) (callV_lamA.mono (by decide)) hr (fun _ _ _ _ _ => cells_nil) (fun _ _ _ _ _ => cells_nil) (fun _ _ e t => ⟨e _ _ t.1, e _ _ t.2⟩) (fun _ _ e t => ⟨e _ _ t.1, e _ _ t.2⟩) spv_step spv_okB hv hf hf2 hG (ll_src T1 hsr) q
  · obtain ⟨v, os, x, r, rfl, hv, hT, T1, hsr, q⟩ := h
    have hxz := T1.xz
    have holn := len_pow3s os T1.z
    refine q_drop (ev_call (ea_cons (ev_var rfl) ea_nil) (spv_checkO hv.odsV T1.o T1.s)) fun H1 e1 => ?_
    refine q_drop (ev_call (ea_cons (ev_var rfl) ea_nil) (spv_checkL T1.ax (by omega))) fun H2 e2 => ?_
    refine ⟨tabs_ex (e1.trans e2) hT, fun fs c' H3 e3 hT3 nf hf hc => ?_⟩
    have en3 : ExtN H H3 := (Ex.n (e1.trans e2)).trans e3
    refine ⟨v, rfl, st x, rfl, .ref fs, rfl, hT3, fun f2 c2 H4 e4 hT4 nf2 hf2 hc2 => ?_⟩
    have en4 := en3.trans e4
    have hA : EvA (tCons (tVar 0) (tCons (tVar 1) (tCons (tC (.int 1)) tNil))) [some v, some (st x), some (.ref fs)] H4 [v, st x, .int ((1 : Nat) : Int)] := ea_cons (ev_var rfl) (ea_cons (ev_var rfl) (ea_cons ev_c ea_nil))
    refine (el_call (E := E0) (dvs := []) hA (spl_signsFor (x := x) (m := 1) (hv.n en4).odsV T1.o T1.xz (by omega))) H4 (Ex.refl _) _ fun Gd H6 nG e46 hG => ?_
    have en6 := en4.trans (Ex.n e46)
    refine ⟨v, os, x, r, fs, c', f2, c2, Gd, rfl, hv.n en6, T1, hsr, ⟨e46 _ _ (e4 _ _ hf (fnO_ne)), e46 _ _ (e4 _ _ hc codeO_ne)⟩, ⟨e46 _ _ hf2, e46 _ _ hc2⟩, hG, fun H7 e7 => q H7 (en6.trans (Ex.n e7)) (tabs_ex (e46.trans e7) hT4)⟩
end
end Ev
set_option Elab.async false
set_option linter.all false
set_option maxRecDepth 100000
set_option maxHeartbeats 4000000
namespace Ev
open PySem PySem.Spec PyProof.Rows L2 Evl StX LamX NdefX
theorem in_S (t y : Tx) : (!(Builtin.Str.occurrences (S t) (S y) 0 (S t).length 1).isEmpty) = infB y t := by
  rw [Bool.eq_iff_iff, PySem.StrLaws.found_iff, infB_iff]
  have key : ∀ i, Builtin.Str.subAt (S t) (S y) i = true ↔ (t.drop i).take y.length = y := fun i => by
    unfold Builtin.Str.subAt
    rw [S_len]
    have e : ((S t).cps.extract i (i + y.length)) = ((t.drop i).take y.length).toArray := by
      apply Array.toList_inj.mp
      simp [List.extract_eq_take_drop]
    rw [e, beq_iff_eq]
    constructor
    · intro h
      have := congrArg Array.toList h
      simpa using this
    · intro h
      rw [h]
  constructor
  · rintro ⟨i, _, h⟩
    rw [key] at h
    refine ⟨t.take i, (t.drop i).drop y.length, ?_⟩
    conv => lhs; rw [← h]
    rw [List.append_assoc]
    have e1 : ((t.drop i).take y.length) ++ (t.drop i).drop ((t.drop i).take y.length).length = t.drop i := by
      rw [h]
      conv => lhs; lhs; rw [← h]
      exact List.take_append_drop _ _
    rw [e1, List.take_append_drop]
  · rintro ⟨a, b, rfl⟩
    refine ⟨a.length, by rw [S_len, S_len]; simp, ?_⟩
    rw [key, List.append_assoc, List.drop_left' rfl, List.take_left' rfl]
theorem rv_inStr {t y : Tx} {H : Hp} : RV (fun x y H Q => ∃ i j, x = V.str i ∧ y = V.str j ∧ Q (.bl (!(Builtin.Str.occurrences j i 0 j.length 1).isEmpty)) H) (st y) (st t) H (.bl (infB y t)) := fun H1 _ Q q => ⟨S y, S t, rfl, rfl, by
  rw [in_S]
  exact q H1 (Ex.refl H1)⟩
theorem CallV.imp {P : Program} {w : World} {K : PySem.W.Frag} {mg : Str → Option Value} {base : Heap} {k : Nat} {f : Addr} {tr : Hp → Prop} {cells : Heap → Hp → Prop} {sp sp' : Sp} (C : CallV P w K mg base k f tr cells sp) (h : ∀ vs H Q E, sp' vs H Q E → sp vs H Q E) : CallV P w K mg base k f tr cells sp' :=
  ⟨C.at_, fun A outer s H us vs Q E hr e0 t c r q => C.run A outer s H us vs Q E hr e0 t c r (h _ _ _ _ q)⟩
section
variable {P : Program} {w : World} {K : PySem.W.Frag} {mg : Str → Option Value} {base : Heap}
theorem nsB : nscB ["held", "out", "word", "text", "at"] ["held", "out"] ["word"] (C8.fnScope stepB) = true := by decide +kernel
theorem nsLB : nscB ["held", "out", "word"] ["held", "out"] ["word"] (lamS lamB) = true := by decide +kernel
theorem nnB : (["held", "out", "word", "text", "at"] : List Str).Nodup := by decide +kernel
theorem callV_stepB (G : Gb mg) {f c' : Addr} {qual : Str} {cl : List (Str × Addr)} {y : Tx} (hy : y.length ≤ 1000) : CallV P w K mg base 1 f (fun H => H f = some (FnO f (NF.of stepB "step" qual cl c')) ∧ H c' = some (CodeO c' qual)) (fun h H => CellsAt cl ["word"] [some (st y)] h H) (spStep (showG y)) := by
  refine (callV_def (F := NF.of stepB "step" qual cl c') (ps := ["held", "out"]) (fr := ["word"]) (ws := [some (st y)]) (sp := fun ws vs H Q E => ws = [some (st y)] ∧ spStep (showG y) vs H Q E) (nok_of (N := ["held", "out", "word", "text", "at"]) (k := 0) (nscope_by nsB) (fun doc pm ctv us hl => match us, hl with | [_, _], _ => rfl) (fun ws vs H Q E h => ?_) fun A outer s H vs ws Q E hr _ _ hw h => ?_)).imp fun vs H Q E h => ⟨rfl, h⟩
  · obtain ⟨_, a, b, rfl, _⟩ := h; rfl
  refine ⟨_, PSs.nox (pss_cons (ps_set (i := 3) nnB rfl (.inl rfl) (pe_op op_add_str (pv 0) (pv 1)) (hf := .inr rfl))
    (pss_cons (ps_if (pt_cmpR op_in_str (pv 2) (pv 3) (by rfl)) (pss_one (ps_ret (pv 2))) pss_nil)
    (pss_cons (ps_set (i := 4) nnB rfl (.inl rfl) (pe_callB (call_max2 rfl) (by rfl) G.max bi_max (pa_cons pe_int (pa_cons (pe_op op_add (pe_op op_sub (pe_callB call_len_str (by rfl) G.len bi_len (pa_cons (pv 3) pa_nil)) (pe_callB call_len_str (by rfl) G.len bi_len (pa_cons (pv 2) pa_nil))) pe_int) pa_nil))) (hf := .inr rfl))
    (pss_cons (ps_while PassesOwn.never (pt_not (pt_val (pe_m1 PySem.F.slot_str_startswith PySem.F.type_str_startswith mt_startswith (pv 2) (pe_slice sl_str (pv 3) (po_some (pv 4)) po_none)))) (pss_one (ps_aug (i := 4) nnB rfl (.inl rfl) pe_int ip_add (hf := .inr rfl))))
    (pss_one (ps_ret (pe_slice sl_str (pv 3) (po_some (pv 4)) po_none))))))), ?_⟩
  obtain ⟨hws, a, b, rfl, h1, h2, q⟩ := h
  subst hws
  have hq : rV (showG y a b) = st (showT y (a ++ b)) := rfl
  rw [hq] at q
  have hl : (a ++ b).length ≤ 10000 := by rw [List.length_append]; omega
  refine q_asg (ev_op (ev_var rfl) (ev_var rfl) (rv_addS (a := a) (b := b) (small (by omega)))) fun H1 e1 => ?_
  generalize a ++ b = t at q hl
  refine q_when (b := infB y t) (et_test (ev_op (ev_var rfl) (ev_var rfl) rv_inStr)) (fun hb H2 e2 => ?_) fun hb H2 e2 => ?_
  · have et : showT y t = y := by unfold showT; rw [if_pos hb]
    rw [et] at q
    exact s_ret (ev_var rfl) fun H3 e3 => q H3 ((e1.trans e2).trans e3)
  · have et : showT y t = (shiftM y (t.drop (t.length + 1 - y.length))).1 := by unfold showT; rw [if_neg (by rw [hb]; decide)]
    rw [et] at q
    have hny : y.length ≠ 0 := fun z => by
      have : y = [] := List.eq_nil_of_length_eq_zero z
      rw [this] at hb
      have : infB [] t = true := infB_iff.mpr (List.nil_infix)
      rw [this] at hb
      cases hb
    have em : (if ((t.length : Int) - (y.length : Int) + 1) > 0 then ((t.length : Int) - (y.length : Int) + 1) else 0) = ((t.length + 1 - y.length : Nat) : Int) := by split <;> omega
    refine q_asg (v := .int ((t.length + 1 - y.length : Nat) : Int)) (by
      rw [← em]
      exact ev_max2 ev_c (ev_op (ev_op (ev_lenS (ev_var rfl) (small (by omega))) (ev_lenS (ev_var rfl) (small (by omega))) rv_I0) ev_c rv_I0)) fun H3 e3 => ?_
    have e03 := (e1.trans e2).trans e3
    refine q_while (fun m σ H' => ∃ k : Nat, σ = [some (st a), some (st b), some (st y), some (st t), some (.int (k : Int))] ∧ Ex H H' ∧ m = t.length - k ∧ k ≤ t.length ∧ (shiftM y (t.drop k)).1 = (shiftM y (t.drop (t.length + 1 - y.length))).1) (t.length - (t.length + 1 - y.length))
      ⟨t.length + 1 - y.length, rfl, e03, rfl, by omega, rfl⟩ fun m σ H' ⟨k, hσ, e, hm, hk, hs⟩ => ?_
    subst hσ
    refine ⟨!((t.drop k).isPrefixOf y), et_not (et_B (ev_starts (ev_var rfl) (ev_slS (x := t) (y := t.drop k) (lo := some (k : Int)) (hi := none) (ev_var rfl) (eo_some (ev_var rfl)) eo_none (small (by omega)) cutS_from))), fun hb2 H4 e4 => ?_, fun hb2 H4 e4 => ?_⟩
    · have hp : ¬ ((t.drop k).isPrefixOf y = true) := fun z => by rw [z] at hb2; cases hb2
      have hlt : k < t.length := by
        refine Nat.lt_of_not_le fun hge => hp ?_
        rw [List.drop_eq_nil_of_le hge]
        cases y <;> rfl
      refine ⟨fun σ H' => ∃ m', m' < m ∧ ∃ k : Nat, σ = [some (st a), some (st b), some (st y), some (st t), some (.int (k : Int))] ∧ Ex H H' ∧ m' = t.length - k ∧ k ≤ t.length ∧ (shiftM y (t.drop k)).1 = (shiftM y (t.drop (t.length + 1 - y.length))).1, fun _ _ h => h, ?_⟩
      refine s_aug (a := (k : Int)) (b := 1) rfl ev_c fun H5 e5 => ⟨t.length - (k + 1), by omega, k + 1, rfl, (e.trans e4).trans e5, rfl, hlt, ?_⟩
      rw [← hs]
      have ed : t.drop k = t[k] :: t.drop (k + 1) := List.drop_eq_getElem_cons hlt
      rw [ed] at hp ⊢
      conv => rhs; unfold shiftM
      rw [if_neg hp]
    · have hp : (t.drop k).isPrefixOf y = true := by
        cases hz : (t.drop k).isPrefixOf y with
        | true => rfl
        | false => rw [hz] at hb2; cases hb2
      have es : shiftM y (t.drop k) = (t.drop k, []) := by
        cases hd : t.drop k with
        | nil => rfl
        | cons c r => rw [hd] at hp; unfold shiftM; rw [if_pos hp]
      rw [es] at hs
      rw [← hs] at q
      exact s_ret (ev_slS (x := t) (y := t.drop k) (lo := some (k : Int)) (hi := none) (ev_var rfl) (eo_some (ev_var rfl)) eo_none (small (by omega)) cutS_from) fun H5 e5 => q H5 ((e.trans e4).trans e5)
theorem callV_lamB {f c' : Addr} {qual : Str} {cl : List (Str × Addr)} {y : Tx} : CallV P w K mg base 1 f (fun H => H f = some (FnL f (LF.of lamB qual cl c')) ∧ H c' = some (CodeO c' qual)) (fun h H => CellsAt cl ["word"] [some (st y)] h H) (spOkB (showOk y)) := by
  refine callV_lam (L := LF.of lamB qual cl c') (N := ["held", "out", "word"]) (ps := ["held", "out"]) (fr := ["word"]) (ws := [some (st y)]) (k := 0) (nscope_by nsLB) (fun pm ctv us hl => match us, hl with | [_, _], _ => rfl) (fun vs H Q E h => ?_) fun A outer s H vs Q E hr hw h => ?_
  · obtain ⟨a, b, rfl, _⟩ := h; rfl
  refine ⟨_, pe_cmpR op_in_str (pv 2) (pe_op op_add_str (pv 0) (pv 1)) (by rfl), ?_⟩
  obtain ⟨a, b, rfl, h1, h2, q⟩ := h
  exact (ev_op (ev_var rfl) (ev_op (ev_var rfl) (ev_var rfl) (rv_addS (a := a) (b := b) (small (by omega)))) rv_inStr) H (Ex.refl H) _ q
end
end Ev
set_option Elab.async false
set_option linter.all false
set_option maxRecDepth 100000
set_option maxHeartbeats 4000000
namespace Ev
open PySem PySem.Spec PyProof.Rows L2 Evl StX LamX NdefX
section
variable {P : Program} {w : World} {K : PySem.W.Frag} {mg : Str → Option Value} {base : Heap}
theorem sc_shows : FnScope ["orders", "word", "step"] ["orders", "word"] (defScope (top 35)) := ⟨rfl, rfl, rfl, by decide +kernel, rfl, by decide +kernel, by decide +kernel⟩
theorem show_big {os : List Od} {y : Tx} (T : One os y) (hy : y ≠ []) : ∀ h0, showG y [] (begM os []).2 = some h0 → ∀ k : List Nr, k.Nodup → (∀ x ∈ k, ∃ w, Over (signsM os y 1) w ∧ runR (stepR os (showG y)) ((begM os []).1, h0) w = some x) → k.length ≤ 8000000 := fun h0 e0 k hn hk => by
  have eh : h0 = showT y ([] ++ (begM os []).2) := (Option.some.inj e0).symm
  subst eh
  have hN := rows_le T.o T.s (g := showG y) (h0 := showT y ([] ++ (begM os []).2)) (signs := signsM os y 1) (signs_sg os y 1) ((List.range (y.length + 1)).map fun i => y.take i) (fun w _ x hx => by
    obtain ⟨z, hz, hp, _⟩ := show_run (os := os) hy w
    rw [hz] at hx
    cases hx
    refine List.mem_map.mpr ⟨x.2.length, List.mem_range.mpr (Nat.lt_succ_of_le hp.length_le), ?_⟩
    exact (List.prefix_iff_eq_take.mp hp).symm) k hn hk
  rw [List.length_map, List.length_range] at hN
  exact Nat.le_trans hN T.nn
theorem ll_show {os : List Od} {y : Tx} {r : Option Tx} (T : One os y) (hy : y ≠ []) (h : showM os y = some r) : LL os [] (signsM os y 1) (showG y) (showOk y) r where
  o := T.o
  s := T.s
  z := T.z
  sg := signs_sg os y 1
  bz := Nat.zero_le _
  gz := fun a c h ha e => by
    have eh : h = showT y (a ++ c) := (Option.some.inj e).symm
    rw [eh]
    have := (showT_pre y (a ++ c)).length_le
    have := T.xz
    omega
  res := ⟨_, h⟩
  big := show_big T hy
def spShows (T : List NTab) : Sp := fun vs H Q _ => ∃ (v : V) (os : List Od) (y : Tx) (r : Option Tx), vs = [v, st y] ∧ OdsL H v os ∧ TabsN T H ∧ One os y ∧ 1 ≤ y.length ∧ y.length ≤ 4 ∧ showM os y = some r ∧ (∀ H2, ExtN H H2 → TabsN T H2 → Q (rV r) H2)
def PhB (cl : List (Str × Addr)) (σ : L2.St) (vs : List V) (H : Hp) (Q : VK) : Prop := ∃ (v : V) (os : List Od) (y : Tx) (r : Option Tx) (f c1 f2 c2 Gd : Addr), vs = [v, st [], .ref f, .ref f2, .ref Gd] ∧ slotAt σ 1 = some (st y) ∧ OdsL H v os ∧ One os y ∧ 1 ≤ y.length ∧ y.length ≤ 4 ∧ showM os y = some r ∧
  (H f = some (FnO f (NF.of stepB "step" "shows.<locals>.step" cl c1)) ∧ H c1 = some (CodeO c1 "shows.<locals>.step")) ∧ (H f2 = some (FnL f2 (LF.of lamB "shows.<locals>.<lambda>" cl c2)) ∧ H c2 = some (CodeO c2 "shows.<locals>.<lambda>")) ∧ H Gd = some (.lst (sgV (signsM os y 1))) ∧ RetV (rV r) H Q
theorem freeB : ∀ y ∈ (C8.fnScope stepB).names, y.2 = .free → (defScope (top 35)).names.lookup y.1 = some .cell ∨ (defScope (top 35)).names.lookup y.1 = some .free := by decide +kernel
theorem freeLB : ∀ y ∈ (lamS lamB).names, y.2 = .free → (defScope (top 35)).names.lookup y.1 = some .cell ∨ (defScope (top 35)).names.lookup y.1 = some .free := by decide +kernel
theorem frB : ∀ y ∈ (["word"] : List Str), (y, NameKind.free) ∈ (C8.fnScope stepB).names := by decide +kernel
theorem ok_shows {T : List NTab} {c1 P1 : Addr} (F : AtC K mg 35 "shows" c1) (F33 : At K mg 33 "least_line") (G : Gb mg) (TB : TabB base mg c1 P1) (hm : (P1, nmT) ∈ T) (hu : ∀ p ∈ T, p.1 = P1 → p.2 = nmT)
    (DC : Df P w K mg base 5 "check_orders" ["value"] spCheckO) (DW : Df P w K mg base 2 "is_word" ["value", "least", "most"] spWord) (DS : Df P w K mg base 2 "signs_for" ["orders", "word", "more"] spSignsFor)
    (DB : Df P w K mg base 4 "begun" ["orders"] spBegun) (DE : Df P w K mg base 4 "ended" ["orders", "states"] spEnded) (DU : Df P w K mg base 4 "pushed" ["orders", "states", "sign"] spPushed) :
    Df P w K mg base 7 "shows" ["orders", "word"] (spShows T) := by
  refine Df.madeC (N := ["orders", "word", "step"]) F sc_shows (fun _ _ _ _ _ _ us hl => match us, hl with | [_, _], _ => rfl) (fun vs H Q E h => ?_) (fun f A outer s H vs Q E hr h => ?_)
  · obtain ⟨v, os, x, r, rfl, _⟩ := h; rfl
  refine ⟨_, pss_cons (ps_expr (pe_df DC hr (by decide) (by rfl) (pa_cons (pv 0) pa_nil))) (pss_cons (ps_if (pt_not (pt_val (pe_df DW hr (by decide) (by rfl) (pa_cons (pv 1) (pa_cons pe_int (pa_cons pe_int pa_nil)))))) (pss_one ps_never) pss_nil)
    (pss_cons (ps_ndefS (st := stepB) (i := 2) (T := T) (P := P1) rfl TB rfl hm rfl hu freeB rfl rfl rfl sc_shows.nd rfl (.inl rfl) (.inr rfl))
    (pss_one (ps_ret (pe_callS (k := 5) (N := nLeast) (Φ := PhB [("word", s.heap.objs.size + 1)]) (cells := fun σ h H => CellsAt [("word", s.heap.objs.size + 1)] ["word"] ([1].map (slotAt σ)) h H) F33 sc_least (fun _ _ _ _ _ _ us hl => match us, hl with | [_, _, _, _, _], _ => rfl) (fun σ vs H Q h => ?_) hr (by decide) (by rfl)
      (pa_cons (pv 0) (pa_cons pe_str (pa_cons (pv 2) (pa_cons (pe_lamN (T := T) (P := P1) TB rfl hm rfl hu rfl freeLB) (pa_cons (pe_df DS hr (by decide) (by rfl) (pa_cons (pv 0) (pa_cons (pv 1) (pa_cons pe_int pa_nil)))) pa_nil)))))
      (fun _ _ _ _ I => cells_of I (Caps.made (scope := C8.fnScope stepB) I.ok freeB frB rfl)) (fun f cdv A outer s' σ H vs Q hr hC h => ?_)))))), ?_⟩
  · obtain ⟨v, os, x, r, f, c1, f2, c2, Gd, rfl, _⟩ := h; rfl
  · obtain ⟨v, os, y, r, fs, c1', f2, c2, Gd, rfl, hσ, hv, T1, hy1, hy4, hsr, hf, hf2, hG, q⟩ := h
    have hC' : CellsAt [("word", s.heap.objs.size + 1)] ["word"] [some (st y)] s'.heap H := by
      have : ([1].map (slotAt σ)) = [some (st y)] := by rw [List.map_cons, hσ]; rfl
      rw [this] at hC
      exact hC
    have hyne : y ≠ [] := fun z => by rw [z] at hy1; exact absurd hy1 (by decide)
    exact least_body (b := []) DB DE DU ((callV_stepB G (by omega)).mono (by decide)) (callV_lamB.mono (by decide)) hr (fun _ _ _ _ I => cells_keep hC' rfl I) (fun _ _ _ _ I => cells_keep hC' rfl I) (fun _ _ e t => ⟨e _ _ t.1, e _ _ t.2⟩) (fun _ _ e t => ⟨e _ _ t.1, e _ _ t.2⟩) spv_step spv_okB hv hf hf2 hG (ll_show T1 hyne hsr) q
  · obtain ⟨v, os, y, r, rfl, hv, hT, T1, hy1, hy4, hsr, q⟩ := h
    have hxz := T1.xz
    have holn := len_pow3s os T1.z
    refine q_drop (ev_call (ea_cons (ev_var rfl) ea_nil) (spv_checkO hv.odsV T1.o T1.s)) fun H1 e1 => ?_
    refine q_when (b := false) (et_not (a := true) (et_B (ev_call (ea_cons (ev_var rfl) (ea_cons ev_c (ea_cons ev_c ea_nil))) (spv_word T1.ax (by omega) (by omega) (by omega))))) (fun h => nomatch h) fun _ H2 e2 => ?_
    refine ⟨tabs_ex (e1.trans e2) hT, fun fs c' H3 e3 hT3 nf hf hc => ?_⟩
    have en3 : ExtN H H3 := (Ex.n (e1.trans e2)).trans e3
    refine ⟨v, rfl, .ref fs, rfl, hT3, fun f2 c2 H4 e4 hT4 nf2 hf2 hc2 => ?_⟩
    have en4 := en3.trans e4
    have hA : EvA (tCons (tVar 0) (tCons (tVar 1) (tCons (tC (.int 1)) tNil))) [some v, some (st y), some (.ref fs)] H4 [v, st y, .int ((1 : Nat) : Int)] := ea_cons (ev_var rfl) (ea_cons (ev_var rfl) (ea_cons ev_c ea_nil))
    refine (el_call (E := E0) (dvs := []) hA (spl_signsFor (x := y) (m := 1) (hv.n en4).odsV T1.o T1.xz (by omega))) H4 (Ex.refl _) _ fun Gd H6 nG e46 hG => ?_
    have en6 := en4.trans (Ex.n e46)
    refine ⟨v, os, y, r, fs, c', f2, c2, Gd, rfl, rfl, hv.n en6, T1, hy1, hy4, hsr, ⟨e46 _ _ (e4 _ _ hf (fnO_ne)), e46 _ _ (e4 _ _ hc codeO_ne)⟩, ⟨e46 _ _ hf2, e46 _ _ hc2⟩, hG, fun H7 e7 => q H7 (en6.trans (Ex.n e7)) (tabs_ex (e46.trans e7) hT4)⟩
end
end Ev
set_option Elab.async false
set_option linter.all false
set_option maxRecDepth 100000
set_option maxHeartbeats 4000000
namespace Ev
open PySem PySem.Spec PyProof.Rows L2 Evl StX LamX NdefX
/-! ### small lists of orders -/
structure DR (L : Tx) (m b : Nat) (os : List Od) : Prop where
  ok : OkOs os
  sg : SgOs os
  len : os.length ≤ m
  nn : nn os ≤ b
  nm : ∀ c ∈ namedsM os, c ∈ L
theorem nn_append : ∀ (a b : List Od), nn (a ++ b) = nn a * nn b
  | [], b => by show nn b = 1 * nn b; rw [Nat.one_mul]
  | o :: a, b => by
    show (stOf o).length * nn (a ++ b) = (stOf o).length * nn a * nn b
    rw [nn_append a b, Nat.mul_assoc]
theorem nameds_append (a b : List Od) : namedsM (a ++ b) = namedsM a ++ namedsM b := List.flatMap_append
theorem DR.app {L : Tx} {m b m' b' : Nat} {x y : List Od} (h : DR L m b x) (k : DR L m' b' y) : DR L (m + m') (b * b') (x ++ y) where
  ok := h.ok.append k.ok
  sg := h.sg.append k.sg
  len := by rw [List.length_append]; exact Nat.add_le_add h.len k.len
  nn := by rw [nn_append]; exact Nat.mul_le_mul h.nn k.nn
  nm := fun c hc => by
    rw [nameds_append] at hc
    exact (List.mem_append.mp hc).elim (h.nm c) (k.nm c)
theorem DR.mono {L : Tx} {m b m' b' : Nat} {x : List Od} (h : DR L m b x) (hm : m ≤ m') (hb : b ≤ b') : DR L m' b' x := ⟨h.ok, h.sg, Nat.le_trans h.len hm, Nat.le_trans h.nn hb, h.nm⟩
theorem DR.nil {L : Tx} : DR L 0 1 [] := ⟨(fun _ h => nomatch h), (fun _ h => nomatch h), Nat.le_refl _, Nat.le_refl _, (fun _ h => nomatch h)⟩
theorem pow3_le6 : ∀ (os : List Od) (n : Nat), os.length ≤ n → pow3 os ≤ 3 ^ n
  | [], n, _ => Nat.one_le_pow _ _ (by decide)
  | o :: os, 0, h => absurd h (by simp)
  | o :: os, n + 1, h => by
    have := pow3_le6 os n (by simpa using h)
    show 3 * pow3 os ≤ 3 ^ (n + 1)
    rw [Nat.pow_succ]
    omega
theorem two_of {L : Tx} {m b m' b' : Nat} {x y : List Od} (h : DR L m b x) (k : DR L m' b' y) (hm : m ≤ 6 := by decide) (hm' : m' ≤ 6 := by decide) (hb : b * b' ≤ 8000000 := by decide) : Two x y where
  o1 := h.ok
  o2 := k.ok
  s1 := h.sg
  s2 := k.sg
  z1 := Nat.le_trans (pow3_le6 x 6 (Nat.le_trans h.len hm)) (by decide)
  z2 := Nat.le_trans (pow3_le6 y 6 (Nat.le_trans k.len hm')) (by decide)
  nn := Nat.le_trans (Nat.mul_le_mul h.nn k.nn) hb
theorem fu_of {L : Tx} {m b m' b' : Nat} {x y : List Od} (hL : L.length ≤ 25) (h : DR L m b x) (k : DR L m' b' y) : ∃ r, fuM x y = some r ∧ FuFull x y r := by
  refine fuM_full h.ok k.ok h.sg k.sg ?_
  have := others_many (named := namedsM (x ++ y)) (L := L) fun c hc => by
    rw [nameds_append] at hc
    exact (List.mem_append.mp hc).elim (h.nm c) (k.nm c)
  omega
theorem Alike.app_r {x y : List Od} (h : Alike x y) (z : List Od) : Alike (x ++ z) (y ++ z) := fun w hw => by rw [playedM_append, playedM_append, h w hw]
theorem Alike.app_l {x y : List Od} (h : Alike x y) {z : List Od} (hz : SgOs z) : Alike (z ++ x) (z ++ y) := fun w hw => by rw [playedM_append, playedM_append, h _ (sg_played z w hz hw)]
/-- a list of orders whose texts can be replaced -/
def OdsK (H : Hp) (v : V) (os : List Od) : Prop := ∃ a vs, v = .ref a ∧ H a = some (.lst vs) ∧ Paired (fun v o => OdV H v o ∧ TokV H v o) vs os
theorem OdsK.odsL {H : Hp} {v : V} {os : List Od} (h : OdsK H v os) : OdsL H v os := let ⟨a, vs, h1, h2, h3⟩ := h; ⟨a, vs, h1, h2, L2.Paired.mapP h3 fun _ _ z => z.1⟩
theorem OdsK.odsT {H : Hp} {v : V} {os : List Od} (h : OdsK H v os) : OdsT H v os := let ⟨a, vs, h1, h2, h3⟩ := h; ⟨a, vs, h1, .inl h2, h3⟩
theorem OdsK.mono {H H' : Hp} {v : V} {os : List Od} (e : Ex H H') (h : OdsK H v os) : OdsK H' v os := let ⟨a, vs, h1, h2, h3⟩ := h; ⟨a, vs, h1, e _ _ h2, L2.Paired.mapP h3 fun _ _ z => ⟨z.1.mono e, z.2.mono e⟩⟩
section
variable {P : Program} {w : World} {K : PySem.W.Frag} {mg : Str → Option Value} {base : Heap}
section
variable {σ : L2.St} {H : Hp} {ta tb : TE} {os ps : List Od} {r : Option Tx} {E : XK}
theorem ev_alike2 (h1 : EvR ta σ H os) (h2 : EvR tb σ H ps) (T : Two os ps) (h : fuM os ps = some r) : Ev (tCall spAlike [] E (tCons ta (tCons tb tNil))) σ H (.bl (decide (r = none))) := fun H1 e Q q =>
  h1 H1 e _ fun x H2 e2 hx => h2 H2 (e.trans e2) _ fun y H3 e3 hy => spv_Alike (hx.mono e3) hy T h H3 (Ex.refl H3) Q (fun H4 e4 => q H4 ((e2.trans e3).trans e4)) E
theorem ev_unlike2 (h1 : EvR ta σ H os) (h2 : EvR tb σ H ps) (T : Two os ps) (h : fuM os ps = some r) : Ev (tCall spUnlike [] E (tCons ta (tCons tb tNil))) σ H (rV r) := fun H1 e Q q =>
  h1 H1 e _ fun x H2 e2 hx => h2 H2 (e.trans e2) _ fun y H3 e3 hy => spv_Unlike (hx.mono e3) hy T h H3 (Ex.refl H3) Q (fun H4 e4 => q H4 ((e2.trans e3).trans e4)) E
theorem ev_idle1 (h1 : EvR ta σ H os) (T : Two os []) (h : fuM os [] = some r) : Ev (tCall spIdle [] E (tCons ta tNil)) σ H (.bl (decide (r = none))) := fun H1 e Q q =>
  h1 H1 e _ fun x H2 e2 hx => spv_Idle hx T h H2 (Ex.refl H2) Q (fun H4 e4 => q H4 (e2.trans e4)) E
theorem rv_eqB {a b : Bool} : RV rEq (.bl a) (.bl b) H (.bl (decide (a = b))) := by
  have h := rv_eq (H := H) (x := .bl a) (y := .bl b) rfl
  have e : decide ((.bl a : V) = .bl b) = decide (a = b) := by cases a <;> cases b <;> rfl
  rw [e] at h
  exact h
theorem rv_neB {a b : Bool} : RV rNe (.bl a) (.bl b) H (.bl (!decide (a = b))) := by
  have h := rv_ne (H := H) (x := .bl a) (y := .bl b) rfl
  have e : decide ((.bl a : V) = .bl b) = decide (a = b) := by cases a <;> cases b <;> rfl
  rw [e] at h
  exact h
theorem rv_notNone' {r : Option Tx} : RV rNotN (rV r) .non H (.bl (!decide (r = none))) := fun H1 _ Q q => ⟨rfl, by
  have e : (!decide (rV r = V.non)) = !decide (r = none) := by cases r <;> rfl
  rw [e]
  exact q H1 (Ex.refl H1)⟩
end
/-! ### _law_right -/
theorem sc_right : FnScope ["_law_one_it", "_law_other_it", "_law_third", "_law_told", "_law_line_it", "_law_made"] ["_law_one_it", "_law_other_it", "_law_third"] (defScope (top 46)) := ⟨rfl, rfl, rfl, by decide +kernel, rfl, by decide +kernel, by decide +kernel⟩
def spRight : Sp := fun vs H Q _ => ∃ (v u z : V) (one other third : List Od) (L : Tx), vs = [v, u, z] ∧ OdsK H v one ∧ OdsK H z third ∧ L.length ≤ 25 ∧ DR L 1 28 one ∧ DR L 1 3 third ∧ ((OdsK H u other ∧ DR L 1 3 other) ∨ (OdsL H u other ∧ DR L 2 84 other ∧ Alike one other)) ∧ RetV (.bl true) H Q
theorem ok_right (F : At K mg 46 "_law_right") (DU : Df P w K mg base 7 "unlike_line" ["one", "other"] spUnlike) (DA : Df P w K mg base 8 "alike_lines" ["one", "other"] spAlike) (DP : Df P w K mg base 6 "played" ["orders", "line"] spPlayed)
    (DC : Df P w K mg base 7 "commute_lines" ["one", "other"] spCommute) (DN : Df P w K mg base 7 "undoes" ["one", "other"] spUndoes) (DI : Df P w K mg base 7 "idle_lines" ["orders"] spIdle) : Df P w K mg base 9 "_law_right" ["_law_one_it", "_law_other_it", "_law_third"] spRight := by
  refine Df.made (N := ["_law_one_it", "_law_other_it", "_law_third", "_law_told", "_law_line_it", "_law_made"]) F sc_right (fun _ _ _ _ _ _ us hl => match us, hl with | [_, _, _], _ => rfl) (fun vs H Q E h => ?_) (fun f cdv A outer s H vs Q E hr h => ?_)
  · obtain ⟨v, u, z, _, _, _, _, rfl, _⟩ := h; rfl
  refine ⟨_, pss_cons (ps_set (i := 3) sc_right.nd rfl (.inl rfl) (pe_df DU hr (by decide) (by rfl) (pa_cons (pv 0) (pa_cons (pv 1) pa_nil))))
    (pss_cons (ps_if (PW.pt (pw_and (pt_cmpR op_isN1 (pv 3) pe_non (nomark _)) (pw_and1 (pt_not (pt_val (pe_df DA hr (by decide) (by rfl) (pa_cons (pe_op op_cat (pv 0) (pv 2)) (pa_cons (pe_op op_cat (pv 1) (pv 2)) pa_nil)))))))) (pss_one (ps_ret pe_bl)) pss_nil)
    (pss_cons (ps_set (i := 4) sc_right.nd rfl (.inl rfl) (pe_df DU hr (by decide) (by rfl) (pa_cons (pe_op op_cat (pv 2) (pv 0)) (pa_cons (pe_op op_cat (pv 2) (pv 1)) pa_nil))))
    (pss_cons (ps_if (pt_cmpR op_notN1 (pv 4) pe_non (nomark _)) (pss_cons (ps_set (i := 5) sc_right.nd rfl (.inl rfl) (pe_df DP hr (by decide) (by rfl) (pa_cons (pv 2) (pa_cons (pv 4) pa_nil))))
        (pss_one (ps_if (PW.pt (pw_or (pt_cmpR op_isN1 (pv 3) pe_non (nomark _)) (pw_or1 (pt_cmpR op_eq (pe_df DP hr (by decide) (by rfl) (pa_cons (pv 0) (pa_cons (pv 5) pa_nil))) (pe_df DP hr (by decide) (by rfl) (pa_cons (pv 1) (pa_cons (pv 5) pa_nil))) (nomark _))))) (pss_one (ps_ret pe_bl)) pss_nil))) pss_nil)
    (pss_cons (ps_if (pt_cmpR op_ne (pe_df DC hr (by decide) (by rfl) (pa_cons (pv 0) (pa_cons (pv 1) pa_nil))) (pe_df DA hr (by decide) (by rfl) (pa_cons (pe_op op_cat (pv 0) (pv 1)) (pa_cons (pe_op op_cat (pv 1) (pv 0)) pa_nil))) (nomark _)) (pss_one (ps_ret pe_bl)) pss_nil)
    (pss_one (ps_ret (pe_cmpR op_eq (pe_df DN hr (by decide) (by rfl) (pa_cons (pv 0) (pa_cons (pv 1) pa_nil))) (pe_df DI hr (by decide) (by rfl) (pa_cons (pe_op op_cat (pv 0) (pv 1)) pa_nil)) (nomark _)))))))), ?_⟩
  obtain ⟨v, u, z, one, other, third, L, rfl, hv, hz, hL, D1, D3, hcase, q⟩ := h
  have hu : OdsL H u other := hcase.elim (fun h => h.1.odsL) fun h => h.1
  have D2 : DR L 2 84 other := hcase.elim (fun h => h.2.mono (by decide) (by decide)) fun h => h.2.1
  have hvL := hv.odsL
  have hzL := hz.odsL
  have ln : ∀ {m b m' b' : Nat} {x y : List Od}, DR L m b x → DR L m' b' y → m + m' ≤ 1000 → x.length + y.length ≤ 1000 := fun a b h => Nat.le_trans (Nat.add_le_add a.len b.len) h
  have D13 := D1.app D3
  have D23 := D2.app D3
  have D31 := D3.app D1
  have D32 := D3.app D2
  have D12 := D1.app D2
  have D21 := D2.app D1
  obtain ⟨r1, f1, F1⟩ := fu_of hL D1 D2
  obtain ⟨r2, f2, F2⟩ := fu_of hL D13 D23
  obtain ⟨r3, f3, F3⟩ := fu_of hL D31 D32
  obtain ⟨r4, f4, F4⟩ := fu_of hL D12 D21
  obtain ⟨r5, f5, F5⟩ := fu_of hL D12 (DR.nil (L := L))
  refine q_asg (ev_unlike2 (er_var rfl hvL) (er_var rfl hu) (two_of D1 D2) f1) fun H1 e1 => ?_
  refine q_when (b := false) (et_is (et_and (a := decide (r1 = none)) (b := !decide (r2 = none)) (et_test (ev_op (ev_var rfl) ev_c rv_isNone)) fun _ => et_not (et_B (ev_alike2 (er_cat (er_var rfl (hvL.mono e1)) (er_var rfl (hzL.mono e1)) (ln D1 D3 (by decide))) (er_cat (er_var rfl (hu.mono e1)) (er_var rfl (hzL.mono e1)) (ln D2 D3 (by decide))) (two_of D13 D23) f2))) ?_) (fun h => nomatch h) fun _ H2 e2 => ?_
  · cases h : decide (r1 = none) with
    | false => rfl
    | true =>
      have h1 := F1.iff.mp (of_decide_eq_true h)
      have h2 := F2.iff.mpr (h1.app_r third)
      rw [h2]
      rfl
  have e02 := e1.trans e2
  refine q_asg (ev_unlike2 (er_cat (er_var rfl (hzL.mono e02)) (er_var rfl (hvL.mono e02)) (ln D3 D1 (by decide))) (er_cat (er_var rfl (hzL.mono e02)) (er_var rfl (hu.mono e02)) (ln D3 D2 (by decide))) (two_of D31 D32) f3) fun H3 e3 => ?_
  have e03 := e02.trans e3
  have rest : ∀ (σ : L2.St) H4, Ex H H4 → σ[0]? = some (some v) → σ[1]? = some (some u) → tSeq (tIfS (tTest (tOp rNe (tCall spCommute [] E0 (tCons (tVar 0) (tCons (tVar 1) tNil))) (tCall spAlike [] E0 (tCons (tOp rCat (tVar 0) (tVar 1)) (tCons (tOp rCat (tVar 1) (tVar 0)) tNil))))) (tRet (tC (.bl false))) tNext)
      (tRet (tOp rEq (tCall spUndoes [] E0 (tCons (tVar 0) (tCons (tVar 1) tNil))) (tCall spIdle [] E0 (tCons (tOp rCat (tVar 0) (tVar 1)) tNil)))) { nx := fun _ H' => Q .non H', rt := Q } σ H4 := fun σ H4 e4 s0 s1 => by
    refine q_when (b := false) (et_is (et_test (ev_op (ev_call (ea_cons (ev_var s0) (ea_cons (ev_var s1) ea_nil)) (spv_Commute (hvL.mono e4) (hu.mono e4) (two_of D12 D21) f4)) (ev_alike2 (er_cat (er_var s0 (hvL.mono e4)) (er_var s1 (hu.mono e4)) (ln D1 D2 (by decide))) (er_cat (er_var s1 (hu.mono e4)) (er_var s0 (hvL.mono e4)) (ln D2 D1 (by decide))) (two_of D12 D21) f4) rv_neB)) (by simp)) (fun h => nomatch h) fun _ H5 e5 => ?_
    have e05 := e4.trans e5
    exact s_ret (v := .bl true) (ev_is (ev_op (ev_call (ea_cons (ev_var s0) (ea_cons (ev_var s1) ea_nil)) (spv_Undoes (hvL.mono e05) (hu.mono e05) (two_of D12 DR.nil) f5)) (ev_idle1 (er_cat (er_var s0 (hvL.mono e05)) (er_var s1 (hu.mono e05)) (ln D1 D2 (by decide))) (two_of D12 DR.nil) f5) rv_eqB) (by simp)) fun H6 e6 => q H6 (e05.trans e6)
  refine q_when (b := !decide (r3 = none)) (et_test (ev_op (ev_var rfl) ev_c rv_notNone')) (fun hb H4 e4 => ?_) fun hb H4 e4 => rest _ H4 (e03.trans e4) rfl rfl
  cases hr3 : r3 with
  | none => rw [hr3] at hb; cases hb
  | some wl =>
    obtain ⟨a1, a2, a3, a4⟩ := F3.som wl hr3
    rw [playedM_append, playedM_append] at a2
    have hnone : r1 ≠ none := fun e => a2 (F1.non e _ (sg_played third wl D3.sg a1))
    rcases hcase with ⟨hut, D2'⟩ | ⟨_, _, hal⟩
    · have w1 : wl.length ≤ 756 := Nat.le_trans a4 (Nat.le_trans (Nat.mul_le_mul D31.nn (D3.app D2').nn) (by decide))
      have p1 := pow3_le6 one 1 D1.len
      have p2 := pow3_le6 other 1 D2'.len
      have p3 := pow3_le6 third 1 D3.len
      have pz := played_size third wl D3.ok
      have m3 : pow3 third * (wl.length + 2) ≤ 3 * 758 := Nat.mul_le_mul p3 (by omega)
      have e04 := e03.trans e4
      refine q_asg (ev_call (ea_cons (ev_var rfl) (ea_cons (ev_var rfl) ea_nil)) (spv_played (hz.mono e04).odsT D3.ok D3.sg a1 (by omega))) fun H5 e5 => ?_
      have e05 := e04.trans e5
      have hsm := sg_played third wl D3.sg a1
      have m1 : pow3 one * ((playedM third wl).length + 2) ≤ 3 * 2274 := Nat.mul_le_mul p1 (by omega)
      have m2 : pow3 other * ((playedM third wl).length + 2) ≤ 3 * 2274 := Nat.mul_le_mul p2 (by omega)
      refine s_when (b := false) (et_is (et_or (a := decide (r1 = none)) (b := decide (playedM one (playedM third wl) = playedM other (playedM third wl))) (et_test (ev_op (ev_var rfl) ev_c rv_isNone)) fun _ => et_test (ev_op (ev_call (ea_cons (ev_var rfl) (ea_cons (ev_var rfl) ea_nil)) (spv_played (hv.mono e05).odsT D1.ok D1.sg hsm (by omega))) (ev_call (ea_cons (ev_var rfl) (ea_cons (ev_var rfl) ea_nil)) (spv_played (hut.mono e05).odsT D2'.ok D2'.sg hsm (by omega))) rv_eqS)) (by simp [hnone, a2])) (fun h => nomatch h) fun _ H6 e6 => rest _ H6 (e05.trans e6) rfl rfl
    · exact absurd (hal _ (sg_played third wl D3.sg a1)) a2
theorem spv_right {v u z : V} {one other third : List Od} {L : Tx} {H : Hp} (hv : OdsK H v one) (hz : OdsK H z third) (hL : L.length ≤ 25) (D1 : DR L 1 28 one) (D3 : DR L 1 3 third) (hc : (OdsK H u other ∧ DR L 1 3 other) ∨ (OdsL H u other ∧ DR L 2 84 other ∧ Alike one other)) : SpV spRight [v, u, z] H (.bl true) :=
  spv_of fun H1 e Q E q => ⟨v, u, z, one, other, third, L, rfl, hv.mono e, hz.mono e, hL, D1, D3, hc.elim (fun h => .inl ⟨h.1.mono e, h.2⟩) (fun h => .inr ⟨h.1.mono e, h.2⟩), q⟩
end
end Ev
set_option Elab.async false
set_option linter.all false
set_option maxRecDepth 100000
set_option maxHeartbeats 4000000
namespace Ev
open PySem PySem.Spec PyProof.Rows L2 Evl StX LamX NdefX
/-! ### the pump -/
def PumpOk (p : Addr) (H : Hp) : Prop := ∃ n : Int, 0 ≤ n ∧ H p = some (.lst [.int n])
/-- all but the pump stays -/
def Mv (p : Addr) (H H' : Hp) : Prop := ∀ a o, H a = some o → a ≠ p → H' a = some o
section
variable {p : Addr} {H H1 H' : Hp}
theorem Mv.refl : Mv p H H := fun _ _ h _ => h
theorem Mv.trans (a : Mv p H H1) (b : Mv p H1 H') : Mv p H H' := fun x o h n => b x o (a x o h n) n
theorem Mv.ex (e : Ex H H') : Mv p H H' := fun a o h _ => e a o h
theorem PumpOk.ex (e : Ex H H') (h : PumpOk p H) : PumpOk p H' := let ⟨n, a, b⟩ := h; ⟨n, a, e _ _ b⟩
theorem Mv.t (h : PumpOk p H) (e : Mv p H H') : ExT H H' := fun a xs r => by
  obtain ⟨n, _, hp⟩ := h
  have hne : a ≠ p := fun z => by
    subst z
    rcases r with r | ⟨o, r⟩ <;> (rw [hp] at r; cases r)
  rcases r with r | ⟨o, r⟩
  · exact .inl (e _ _ r hne)
  · exact .inr ⟨o, e _ _ r hne⟩
/-- an object that H does not know may change -/
theorem Mv.mut {q : Addr} {o : HO} (e : Mv p H H') (h : H q = none) : Mv p H (upd H' q o) := fun a u ha n => by
  rw [upd_ne (ne_of_none ha h)]
  exact e a u ha n
end
section
variable {P : Program} {w : World} {K : PySem.W.Frag} {mg : Str → Option Value} {base : Heap}
/-! ### _law_cup -/
theorem sc_cup : FnScope ["_law_pump_here", "_law_many", "_law_digit"] ["_law_pump_here", "_law_many"] (defScope (top 38)) := ⟨rfl, rfl, rfl, by decide +kernel, rfl, by decide +kernel, by decide +kernel⟩
def spCup : Sp := fun vs H Q _ => ∃ (p : Addr) (m : Int), vs = [.ref p, .int m] ∧ 0 < m ∧ m ≤ 100000 ∧ PumpOk p H ∧ ∀ d H', 0 ≤ d → d < m → Mv p H H' → PumpOk p H' → Q (.int d) H'
theorem divW {m : Int} (h : 0 < m) (h2 : m ≤ 100000) : CDivW 0 m := ⟨h, by
  have : m.natAbs < 2 ^ 17 := by omega
  have h0 : m.natAbs ≠ 0 := by omega
  have := (Nat.log2_lt h0).mpr this
  omega⟩
theorem ok_cup (F : At K mg 38 "_law_cup") (G : Gb mg) : Df P w K mg base 1 "_law_cup" ["_law_pump_here", "_law_many"] spCup := by
  refine Df.made (N := ["_law_pump_here", "_law_many", "_law_digit"]) F sc_cup (fun _ _ _ _ _ _ us hl => match us, hl with | [_, _], _ => rfl) (fun vs H Q E h => ?_) (fun f cdv A outer s H vs Q E hr h => ?_)
  · obtain ⟨p, m, rfl, _⟩ := h; rfl
  refine ⟨_, pss_cons (ps_set (i := 2) sc_cup.nd rfl (.inl rfl) (pe_op op_mod (pe_callTy call_int1 (by rfl) G.int bi_int (pa_cons (pe_ix ix_list (pv 0) pe_int (fun _ _ => rfl)) pa_nil)) (pv 1)))
    (pss_cons (ps_asg (pe_op op_fdivW (pe_ix ix_list (pv 0) pe_int (fun _ _ => rfl)) (pv 1)) (pg_sub (pv 0) pe_int set_list))
    (pss_one (ps_ret (pv 2)))), ?_⟩
  obtain ⟨p, m, rfl, hm, hM, ⟨n, hn, hp⟩, q⟩ := h
  have hi : ∀ {G : Hp}, G p = some (.lst [.int n]) → Ev (tOp (rIxL K) (tVar 0) (tC (.int 0))) [some (.ref p), some (.int m), none] G (.int n) := fun h => ev_ixL (i := 0) (ev_var rfl) ev_c (.inl h) rfl
  refine q_asg (v := .int (n % m)) (ev_op (ev_cb (ea_cons (hi hp) ea_nil) (fun H1 e Q q => .inl ⟨n, rfl, q H1 (Ex.refl H1)⟩)) (ev_var rfl) (rv_I hm)) fun H1 e1 => ?_
  have hp1 := e1 _ _ hp
  have hi2 : Ev (tOp (rIxL K) (tVar 0) (tC (.int 0))) [some (.ref p), some (.int m), some (.int (n % m))] H1 (.int n) := ev_ixL (i := 0) (ev_var rfl) ev_c (.inl hp1) rfl
  refine q_setL (l := p) (xs := [.int n]) (j := 0) (v := .int (n / m)) hp1 (ev_op hi2 (ev_var rfl) (rv_I (divW hm hM))) (ev_var rfl) ev_c (by simp) fun H2 e2 => ?_
  refine s_ret (ev_var rfl) fun H3 e3 => ?_
  have h0 := Int.emod_nonneg n (show m ≠ 0 by omega)
  have h1 := Int.emod_lt_of_pos n hm
  have hnm : 0 ≤ n / m := Int.ediv_nonneg hn (by omega)
  refine q _ H3 h0 h1 ?_ ⟨n / m, hnm, e3 _ _ upd_same⟩
  intro a o ha hne
  exact e3 _ _ (by rw [upd_ne hne]; exact e2 _ _ (e1 _ _ ha))
section
variable {σ : L2.St} {H : Hp} {ta tb tc td : TE} {Q : VK} {E : XK} {p : Addr}
theorem cup_run {m : Int} (ha : Ev ta σ H (.ref p)) (hb : Ev tb σ H (.int m)) (hm : 0 < m) (hM : m ≤ 100000) (hp : PumpOk p H) (q : ∀ d H', 0 ≤ d → d < m → Mv p H H' → PumpOk p H' → Q (.int d) H') : tCall spCup [] E (tCons ta (tCons tb tNil)) σ H Q :=
  ha H (Ex.refl H) _ fun H1 e1 => hb H1 e1 _ fun H2 e2 => ⟨p, m, rfl, hm, hM, (hp.ex e1).ex e2, fun d H' h1 h2 h3 h4 => q d H' h1 h2 ((Mv.ex (e1.trans e2)).trans h3) h4⟩
end
/-! ### _law_one_of -/
theorem sc_oneof : FnScope ["_law_pump_here", "_law_some"] ["_law_pump_here", "_law_some"] (defScope (top 39)) := ⟨rfl, rfl, rfl, by decide +kernel, rfl, by decide +kernel, by decide +kernel⟩
def spOneOf : Sp := fun vs H Q _ => ∃ (p : Addr) (l : Tx), vs = [.ref p, st l] ∧ l ≠ [] ∧ l.length ≤ 1000 ∧ PumpOk p H ∧ ∀ c H', c ∈ l → Mv p H H' → PumpOk p H' → Q (st [c]) H'
theorem ok_oneof (F : At K mg 39 "_law_one_of") (G : Gb mg) (DC : Df P w K mg base 1 "_law_cup" ["_law_pump_here", "_law_many"] spCup) : Df P w K mg base 2 "_law_one_of" ["_law_pump_here", "_law_some"] spOneOf := by
  refine Df.made (N := ["_law_pump_here", "_law_some"]) F sc_oneof (fun _ _ _ _ _ _ us hl => match us, hl with | [_, _], _ => rfl) (fun vs H Q E h => ?_) (fun f cdv A outer s H vs Q E hr h => ?_)
  · obtain ⟨p, m, rfl, _⟩ := h; rfl
  refine ⟨_, pss_one (ps_ret (pe_ix ix_str (pv 1) (pe_df DC hr (by decide) (by rfl) (pa_cons (pv 0) (pa_cons (pe_callB call_len_str (by rfl) G.len bi_len (pa_cons (pv 1) pa_nil)) pa_nil))) (fun _ _ => rfl))), ?_⟩
  obtain ⟨p, l, rfl, hl, hz, hp, q⟩ := h
  have hpos : 0 < l.length := List.length_pos_iff.mpr hl
  have e1 := Ex.refl H
  refine ⟨st l, rfl, ?_⟩
  refine cup_run (p := p) (m := (l.length : Int)) (ev_var rfl) (ev_lenS (ev_var rfl) (small (by omega))) (by omega) (by omega) (hp.ex e1) fun d H2 h1 h2 mv hp2 => ?_
  obtain ⟨k, rfl⟩ := Int.eq_ofNat_of_zero_le h1
  have hk : k < l.length := by omega
  refine (rv_ixS' (x := l) (i := k) (c := l[k]) (by omega) (List.getElem?_eq_getElem hk)) H2 (Ex.refl H2) _ fun H3 e3 => q _ H3 (List.getElem_mem hk) (((Mv.ex e1).trans mv).trans (Mv.ex e3)) (hp2.ex e3)
section
variable {σ : L2.St} {H : Hp} {ta tb tc td : TE} {Q : VK} {E : XK} {p : Addr}
theorem oneof_run {l : Tx} (ha : Ev ta σ H (.ref p)) (hb : Ev tb σ H (st l)) (hl : l ≠ []) (hz : l.length ≤ 1000) (hp : PumpOk p H) (q : ∀ c H', c ∈ l → Mv p H H' → PumpOk p H' → Q (st [c]) H') : tCall spOneOf [] E (tCons ta (tCons tb tNil)) σ H Q :=
  ha H (Ex.refl H) _ fun H1 e1 => hb H1 e1 _ fun H2 e2 => ⟨p, l, rfl, hl, hz, (hp.ex e1).ex e2, fun d H' h1 h3 h4 => q d H' h1 ((Mv.ex (e1.trans e2)).trans h3) h4⟩
end
end
end Ev
set_option Elab.async false
set_option linter.all false
set_option maxRecDepth 100000
set_option maxHeartbeats 4000000
namespace Ev
open PySem PySem.Spec PyProof.Rows L2 Evl StX LamX NdefX
section
variable {P : Program} {w : World} {K : PySem.W.Frag} {mg : Str → Option Value} {base : Heap}
section
variable {σ : L2.St} {H : Hp} {ta tb te : TE} {D : Ends} {tz : TS}
theorem ev_int {n : Int} (h : Ev te σ H (.int n)) : Ev (tCB (fun xs H Q => (∃ i, xs = [V.int i] ∧ Q (.int i) H) ∨ ∃ k, xs = [V.bl k] ∧ Q (.int (if k then 1 else 0)) H) (tCons te tNil)) σ H (.int n) :=
  ev_cb (ea_cons h ea_nil) fun H1 e Q q => .inl ⟨n, rfl, q H1 (Ex.refl H1)⟩
theorem q_par {i j : Nat} {ta : TA} {v w : V} (h : EvA ta σ H [v, w]) (k : ∀ H1, Ex H H1 → tz D ((σ.set i (some v)).set j (some w)) H1) : tSeq (tPar i j ta) tz D σ H :=
  h H (Ex.refl H) _ fun H1 e => ⟨v, w, rfl, k H1 e⟩
theorem mulW {i j : Int} {a b : Nat} (ha : i.natAbs < 2 ^ a) (hb : j.natAbs < 2 ^ b) (h : a + b ≤ 999998) : CMulW i j := by
  refine wide_mul (a := a + 1) (b := b + 1) (Nat.lt_of_lt_of_le ha (Nat.pow_le_pow_right (by decide) (by omega))) (Nat.lt_of_lt_of_le hb (Nat.pow_le_pow_right (by decide) (by omega))) (by omega) (by omega) (by omega)
end
/-! ### _law_pump -/
theorem sc_pump : FnScope ["_law_script", "_law_at", "_law_cell", "_law_deep", "_law_near", "_law_far", "_law_full", "_law_turn"] ["_law_script", "_law_at"] (defScope (top 37)) := ⟨rfl, rfl, rfl, by decide +kernel, rfl, by decide +kernel, by decide +kernel⟩
def spPump (K : PySem.W.Frag) : Sp := fun vs H Q _ => ∃ (a : Addr) (ns : List Int), vs = [.ref a, .int 0] ∧ SqL K H a (ns.map V.int) ∧ ns.length ≤ 63 ∧ ∀ (p : Addr) (n : Int) H', H p = none → Ex H H' → 0 ≤ n → H' p = some (.lst [.int n]) → Q (.ref p) H'
def tzP (K : PySem.W.Frag) : TS := tSeq (tIfS (tTest (tOp (rI0 fun i j => .bl (decide (j ≤ i))) (tVar 2) (tOp (rI CPow fun i j => .int (i ^ j.toNat)) (tC (.int 10)) (tC (.int 18))))) (tSeq (tAsg (tOp (rI CMulW fun i j => .int (i * j)) (tOp (rI CMulW fun i j => .int (i * j)) (tOp (rI CMulW fun i j => .int (i * j)) (tOp (rI CPow fun i j => .int (i ^ j.toNat)) (tC (.int 10)) (tC (.int 60))) (tOp (rI CPow fun i j => .int (i ^ j.toNat)) (tC (.int 10)) (tC (.int 60)))) (tOp (rI CPow fun i j => .int (i ^ j.toNat)) (tC (.int 10)) (tC (.int 60)))) (tOp (rI CPow fun i j => .int (i ^ j.toNat)) (tC (.int 10)) (tC (.int 60)))) (gName 3)) (tRet (tLst (tCons (tOp (rI (fun _ j => 0 < j) fun i j => .int (i % j)) (tCB (fun xs H Q => (∃ i, xs = [V.int i] ∧ Q (.int i) H) ∨ ∃ k, xs = [V.bl k] ∧ Q (.int (if k then 1 else 0)) H) (tCons (tOp (rI0 fun i j => .int (i - j)) (tVar 2) (tOp (rI CPow fun i j => .int (i ^ j.toNat)) (tC (.int 10)) (tC (.int 18)))) tNil)) (tOp (rI CMulW fun i j => .int (i * j)) (tOp (rI CMulW fun i j => .int (i * j)) (tVar 3) (tVar 3)) (tVar 3))) tNil)))) tNext)
  (tSeq (tPar 4 5 (tCons (tOp (rI (fun _ j => 0 < j) fun i j => .int (i % j)) (tCB (fun xs H Q => (∃ i, xs = [V.int i] ∧ Q (.int i) H) ∨ ∃ k, xs = [V.bl k] ∧ Q (.int (if k then 1 else 0)) H) (tCons (tOp (rI0 fun i j => .int (i + j)) (tVar 2) (tOp (rI CMul fun i j => .int (i * j)) (tC (.int 13)) (tVar 1))) tNil)) (tC (.int 2147483053))) (tCons (tOp (rI (fun _ j => 0 < j) fun i j => .int (i % j)) (tCB (fun xs H Q => (∃ i, xs = [V.int i] ∧ Q (.int i) H) ∨ ∃ k, xs = [V.bl k] ∧ Q (.int (if k then 1 else 0)) H) (tCons (tVar 2) tNil)) (tC (.int 2147483033))) tNil))) (tSeq (tAsg (tC (.int 0)) (gName 6)) (tSeq (tFor (iRng1 (tCons (tC (.int 120)) tNil)) (gName 7) (tSeq (tAsg (tOp (rI (fun _ j => 0 < j) fun i j => .int (i % j)) (tCB (fun xs H Q => (∃ i, xs = [V.int i] ∧ Q (.int i) H) ∨ ∃ k, xs = [V.bl k] ∧ Q (.int (if k then 1 else 0)) H) (tCons (tOp (rI0 fun i j => .int (i + j)) (tOp (rI0 fun i j => .int (i + j)) (tOp (rI0 fun i j => .int (i + j)) (tOp (rI CMul fun i j => .int (i * j)) (tVar 4) (tC (.int 44771))) (tOp (rI CMul fun i j => .int (i * j)) (tVar 7) (tC (.int 887)))) (tOp (rI CMul fun i j => .int (i * j)) (tC (.int 1301)) (tVar 1))) (tC (.int 43))) tNil)) (tC (.int 2147483053))) (gName 4)) (tSeq (tAsg (tOp (rI (fun _ j => 0 < j) fun i j => .int (i % j)) (tCB (fun xs H Q => (∃ i, xs = [V.int i] ∧ Q (.int i) H) ∨ ∃ k, xs = [V.bl k] ∧ Q (.int (if k then 1 else 0)) H) (tCons (tOp (rI0 fun i j => .int (i + j)) (tOp (rI0 fun i j => .int (i + j)) (tOp (rI CMul fun i j => .int (i * j)) (tVar 5) (tVar 5)) (tOp (rI CMul fun i j => .int (i * j)) (tC (.int 42073)) (tVar 7))) (tC (.int 8009))) tNil)) (tC (.int 2147483033))) (gName 5)) (tAsg (tOp (rI0 fun i j => .int (i + j)) (tOp (rI CMul fun i j => .int (i * j)) (tVar 6) (tC (.int 2147483032))) (tOp (rI (fun _ j => 0 < j) fun i j => .int (i % j)) (tCB (fun xs H Q => (∃ i, xs = [V.int i] ∧ Q (.int i) H) ∨ ∃ k, xs = [V.bl k] ∧ Q (.int (if k then 1 else 0)) H) (tCons (tOp (rI0 fun i j => .int (i + j)) (tOp (rI CMul fun i j => .int (i * j)) (tVar 4) (tVar 5)) (tOp (rI CMul fun i j => .int (i * j)) (tC (.int 37)) (tVar 7))) tNil)) (tC (.int 2147483032)))) (gName 6))))) (tRet (tLst (tCons (tVar 6) tNil))))))
theorem ok_pump (F : At K mg 37 "_law_pump") (G : Gb mg) : Df P w K mg base 1 "_law_pump" ["_law_script", "_law_at"] (spPump K) := by
  refine Df.made (N := ["_law_script", "_law_at", "_law_cell", "_law_deep", "_law_near", "_law_far", "_law_full", "_law_turn"]) F sc_pump (fun _ _ _ _ _ _ us hl => match us, hl with | [_, _], _ => rfl) (fun vs H Q E h => ?_) (fun f cdv A outer s H vs Q E hr h => ?_)
  · obtain ⟨p, m, rfl, _⟩ := h; rfl
  refine ⟨_, pss_cons (ps_set (i := 2) sc_pump.nd rfl (.inl rfl) (pe_op op_add (pe_op op_mul pe_int (pv 1)) pe_int))
    (pss_cons (ps_if (pt_cmpR op_lt (pv 1) (pe_callB call_len_seq (by rfl) G.len bi_len (pa_cons (pv 0) pa_nil)) (nomark _)) (pss_one (ps_set (i := 2) sc_pump.nd rfl (.inl rfl) (pe_ix ix_list (pv 0) (pv 1) (fun _ _ => rfl)))) pss_nil)
    (pss_cons (ps_if (pt_cmpR op_ge (pv 2) (pe_op op_pow pe_int pe_int) (nomark _))
      (pss_cons (ps_set (i := 3) sc_pump.nd rfl (.inl rfl) (pe_op op_mulW (pe_op op_mulW (pe_op op_mulW (pe_op op_pow pe_int pe_int) (pe_op op_pow pe_int pe_int)) (pe_op op_pow pe_int pe_int)) (pe_op op_pow pe_int pe_int)))
      (pss_one (ps_ret (pe_lst (pa_cons (pe_op op_mod (pe_callTy call_int1 (by rfl) G.int bi_int (pa_cons (pe_op op_sub (pv 2) (pe_op op_pow pe_int pe_int)) pa_nil)) (pe_op op_mulW (pe_op op_mulW (pv 3) (pv 3)) (pv 3))) pa_nil))))) pss_nil)
    (pss_cons (ps_par (i := 4) (j := 5) rfl sc_pump.nd rfl rfl (by decide) rfl rfl (pa_cons (pe_op op_mod (pe_callTy call_int1 (by rfl) G.int bi_int (pa_cons (pe_op op_add (pv 2) (pe_op op_mul pe_int (pv 1))) pa_nil)) pe_int) (pa_cons (pe_op op_mod (pe_callTy call_int1 (by rfl) G.int bi_int (pa_cons (pv 2) pa_nil)) pe_int) pa_nil)) rfl)
    (pss_cons (ps_set (i := 6) sc_pump.nd rfl (.inl rfl) pe_int)
    (pss_cons (ps_for PassesOwn.never rfl (pi_range1 (by rfl) G.rng (pa_cons pe_int pa_nil)) (pg_name (i := 7) sc_pump.nd rfl (.inl rfl))
      (pss_cons (ps_set (i := 4) sc_pump.nd rfl (.inl rfl) (pe_op op_mod (pe_callTy call_int1 (by rfl) G.int bi_int (pa_cons (pe_op op_add (pe_op op_add (pe_op op_add (pe_op op_mul (pv 4) pe_int) (pe_op op_mul (pv 7) pe_int)) (pe_op op_mul pe_int (pv 1))) pe_int) pa_nil)) pe_int))
      (pss_cons (ps_set (i := 5) sc_pump.nd rfl (.inl rfl) (pe_op op_mod (pe_callTy call_int1 (by rfl) G.int bi_int (pa_cons (pe_op op_add (pe_op op_add (pe_op op_mul (pv 5) (pv 5)) (pe_op op_mul pe_int (pv 7))) pe_int) pa_nil)) pe_int))
      (pss_one (ps_set (i := 6) sc_pump.nd rfl (.inl rfl) (pe_op op_add (pe_op op_mul (pv 6) pe_int) (pe_op op_mod (pe_callTy call_int1 (by rfl) G.int bi_int (pa_cons (pe_op op_add (pe_op op_mul (pv 4) (pv 5)) (pe_op op_mul pe_int (pv 7))) pa_nil)) pe_int)))))))
    (pss_one (ps_ret (pe_lst (pa_cons (pv 6) pa_nil))))))))), ?_⟩
  obtain ⟨a, ns, rfl, ha, hl, q⟩ := h
  have rest : ∀ (c : Int) (y3 y4 y5 y6 y7 : Option V) (H1 : Hp), Ex H H1 → y3 = none → y4 = none → y5 = none → y6 = none → y7 = none →
      tzP K { nx := fun _ H' => Q .non H', rt := Q } [some (.ref a), some (.int 0), some (.int c), y3, y4, y5, y6, y7] H1 := by
    rintro c _ _ _ _ _ H1 e1 rfl rfl rfl rfl rfl
    refine q_when (b := decide ((10 : Int) ^ (18 : Int).toNat ≤ c)) (et_test (ev_op (ev_var rfl) (ev_op ev_c ev_c (rv_I ⟨by decide, by decide, by decide⟩)) rv_I0)) (fun _ H2 e2 => ?_) fun _ H2 e2 => ?_
    · have p60 : CPow (10 : Int) 60 := ⟨by decide, by decide, by decide⟩
      refine q_asg (v := .int ((10 : Int) ^ (60 : Int).toNat * (10 : Int) ^ (60 : Int).toNat * (10 : Int) ^ (60 : Int).toNat * (10 : Int) ^ (60 : Int).toNat)) (ev_op (ev_op (ev_op (ev_op ev_c ev_c (rv_I p60)) (ev_op ev_c ev_c (rv_I p60)) (rv_I (by unfold CMulW; decide +kernel))) (ev_op ev_c ev_c (rv_I p60)) (rv_I (by unfold CMulW; decide +kernel))) (ev_op ev_c ev_c (rv_I p60)) (rv_I (by unfold CMulW; decide +kernel))) fun H3 e3 => ?_
      have hpos : (0 : Int) < ((10 : Int) ^ (60 : Int).toNat * (10 : Int) ^ (60 : Int).toNat * (10 : Int) ^ (60 : Int).toNat * (10 : Int) ^ (60 : Int).toNat) * ((10 : Int) ^ (60 : Int).toNat * (10 : Int) ^ (60 : Int).toNat * (10 : Int) ^ (60 : Int).toNat * (10 : Int) ^ (60 : Int).toNat) * ((10 : Int) ^ (60 : Int).toNat * (10 : Int) ^ (60 : Int).toNat * (10 : Int) ^ (60 : Int).toNat * (10 : Int) ^ (60 : Int).toNat) := by decide +kernel
      refine s_retL (el_lst (ea_cons (ev_op (ev_int (ev_op (ev_var rfl) (ev_op ev_c ev_c (rv_I ⟨by decide, by decide, by decide⟩)) rv_I0)) (ev_op (ev_op (ev_var rfl) (ev_var rfl) (rv_I (by unfold CMulW; decide +kernel))) (ev_var rfl) (rv_I (by unfold CMulW; decide +kernel))) (rv_I hpos)) ea_nil) (Nat.le_of_ble_eq_true rfl)) fun p H4 np e4 h4 => ?_
      exact q p _ H4 (fresh_back ((e1.trans e2).trans e3) np) (((e1.trans e2).trans e3).trans e4) (Int.emod_nonneg _ (Int.ne_of_gt hpos)) h4
    · refine q_par (v := .int ((c + 13 * 0) % 2147483053)) (w := .int (c % 2147483033)) (ea_cons (ev_op (ev_int (ev_op (ev_var rfl) (ev_op ev_c (ev_var rfl) (rv_I (.inl ⟨by decide, by decide⟩))) rv_I0)) ev_c (rv_I (by decide))) (ea_cons (ev_op (ev_int (ev_var rfl)) ev_c (rv_I (by decide))) ea_nil)) fun H3 e3 => ?_
      refine q_asg ev_c fun H4 e4 => ?_
      have e14 := ((e1.trans e2).trans e3).trans e4
      refine q_forR1 (n := 120) (ea_cons ev_c ea_nil) (by decide) (fun i σ H' => ∃ (nr fr fl : Int) (y7 : Option V), σ = [some (.ref a), some (.int 0), some (.int c), none, some (.int nr), some (.int fr), some (.int fl), y7] ∧ Ex H H' ∧ 0 ≤ nr ∧ nr < 4294967296 ∧ 0 ≤ fr ∧ fr < 4294967296 ∧ 0 ≤ fl)
        (fun H5 e5 => ⟨_, _, 0, none, rfl, e14.trans e5, Int.emod_nonneg _ (by decide), by have := Int.emod_lt_of_pos (c + 13 * 0) (show (0 : Int) < 2147483053 by decide); omega, Int.emod_nonneg _ (by decide), by have := Int.emod_lt_of_pos c (show (0 : Int) < 2147483033 by decide); omega, Int.le_refl 0⟩)
        (fun i σ' H' hi ⟨nr, fr, fl, y7, hσ, e, h1, h2, h3, h4, h5⟩ => ?_) (fun σ' H' ⟨nr, fr, fl, y7, hσ, e, h1, h2, h3, h4, h5⟩ => ?_)
      · subst hσ
        have b1 : CMul nr 44771 := .inr ⟨by decide, by decide⟩
        have bi : ∀ k : Int, CMul (i : Int) k := fun k => .inl ⟨by omega, by omega⟩
        refine q_asg (ev_op (ev_int (ev_op (ev_op (ev_op (ev_op (ev_var rfl) ev_c (rv_I b1)) (ev_op (ev_var rfl) ev_c (rv_I (bi _))) rv_I0) (ev_op ev_c (ev_var rfl) (rv_I (.inl ⟨by decide, by decide⟩))) rv_I0) ev_c rv_I0)) ev_c (rv_I (show (0 : Int) < 2147483053 by decide))) fun H5 e5 => ?_
        have n1 := Int.emod_nonneg (nr * 44771 + (i : Int) * 887 + 1301 * 0 + 43) (show (2147483053 : Int) ≠ 0 by decide)
        have n2 := Int.emod_lt_of_pos (nr * 44771 + (i : Int) * 887 + 1301 * 0 + 43) (show (0 : Int) < 2147483053 by decide)
        generalize (nr * 44771 + (i : Int) * 887 + 1301 * 0 + 43) % 2147483053 = nr' at n1 n2 ⊢
        refine q_asg (ev_op (ev_int (ev_op (ev_op (ev_op (ev_var rfl) (ev_var rfl) (rv_I (.inl ⟨by omega, by omega⟩))) (ev_op ev_c (ev_var rfl) (rv_I (.inl ⟨by decide, by decide⟩))) rv_I0) ev_c rv_I0)) ev_c (rv_I (show (0 : Int) < 2147483033 by decide))) fun H6 e6 => ?_
        have m1 := Int.emod_nonneg (fr * fr + 42073 * (i : Int) + 8009) (show (2147483033 : Int) ≠ 0 by decide)
        have m2 := Int.emod_lt_of_pos (fr * fr + 42073 * (i : Int) + 8009) (show (0 : Int) < 2147483033 by decide)
        generalize (fr * fr + 42073 * (i : Int) + 8009) % 2147483033 = fr' at m1 m2 ⊢
        refine s_asg (ev_op (ev_op (ev_var rfl) ev_c (rv_I (.inr ⟨by decide, by decide⟩))) (ev_op (ev_int (ev_op (ev_op (ev_var rfl) (ev_var rfl) (rv_I (.inl ⟨by omega, by omega⟩))) (ev_op ev_c (ev_var rfl) (rv_I (.inl ⟨by decide, by decide⟩))) rv_I0)) ev_c (rv_I (show (0 : Int) < 2147483032 by decide))) rv_I0) fun H7 e7 => ?_
        have k1 := Int.emod_nonneg (nr' * fr' + 37 * (i : Int)) (show (2147483032 : Int) ≠ 0 by decide)
        refine ⟨nr', fr', _, _, rfl, ((e.trans e5).trans e6).trans e7, n1, by omega, m1, by omega, ?_⟩
        omega
      · subst hσ
        exact s_retL (el_lst (ea_cons (ev_var rfl) ea_nil) (Nat.le_of_ble_eq_true rfl)) fun p H4 np e4 h4 => q p _ H4 (fresh_back e np) (e.trans e4) h5 h4
  refine q_asg (v := .int 11) (ev_is (ev_op (ev_op ev_c (ev_var rfl) (rv_I (.inl ⟨by decide, by decide⟩))) ev_c rv_I0) (by decide)) fun H1 e1 => ?_
  refine q_when (b := decide ((0 : Int) < ((ns.map V.int).length : Int))) (et_test (ev_op (ev_var rfl) (ev_len (ev_var rfl) (ex_l e1 ha)) rv_I0)) (fun hb H2 e2 => ?_) fun _ H2 e2 => rest 11 _ _ _ _ _ H2 (e1.trans e2) rfl rfl rfl rfl rfl
  cases ns with
  | nil => simp at hb
  | cons c ns => exact s_asg (v := .int c) (ev_op (ev_var rfl) (ev_var rfl) (rv_ixL (ex_l (e1.trans e2) ha) (atI_nat (j := 0) (xs := V.int c :: ns.map V.int) rfl))) fun H3 e3 => rest c _ _ _ _ _ H3 ((e1.trans e2).trans e3) rfl rfl rfl rfl rfl
end
end Ev
set_option Elab.async false
set_option linter.all false
set_option maxRecDepth 100000
set_option maxHeartbeats 4000000
namespace Ev
open PySem PySem.Spec PyProof.Rows L2 Evl StX LamX NdefX
section
variable {P : Program} {w : World} {K : PySem.W.Frag} {mg : Str → Option Value} {base : Heap}
section
variable {σ : L2.St} {H : Hp} {ta : TA} {te : TE} {Q : VK} {p : Addr}
theorem lc_words {n : Nat} {j : Nat} {vs : List Nat} {ρ : Tx → Prop} (h : EvA ta σ H [.int (n : Int)]) (hn : n ≤ 10000) (hp : PumpOk p H) (hw : ∀ x, wipe ((wipe σ vs).set j (some x)) vs = wipe σ vs)
    (he : ∀ (i : Nat) H', i < n → Mv p H H' → PumpOk p H' → ∀ Q : VK, (∀ y H'', ρ y → Mv p H' H'' → PumpOk p H'' → Q (st y) H'') → te ((wipe σ vs).set j (some (.int (i : Int)))) H' Q)
    (q : ∀ D (ys : List Tx) H', H D = none → ys.length = n → (∀ y ∈ ys, ρ y) → Mv p H H' → PumpOk p H' → H' D = some (.lst (ys.map st)) → Q (.ref D) H') : tLc (iRng1 ta) (gName j) tYes te vs σ H Q :=
  h H (Ex.refl H) _ fun H1 e1 => ⟨n, rfl, by omega, by omega, fun D nD => by
    have hp1 := hp.ex e1
    have hDp : D ≠ p := fun z => by
      obtain ⟨m, _, h2⟩ := hp1
      rw [z, h2] at nD
      cases nD
    have nD0 := fresh_back e1 nD
    rw [show ((n : Int)).toNat = n by omega]
    refine lc_it (walk_range (lo := 0) (n := n)) (fun i H' => Mv p H H' ∧ PumpOk p H' ∧ ∃ ys : List Tx, ys.length = i ∧ (∀ y ∈ ys, ρ y) ∧ H' D = some (.lst (ys.map st)))
      ⟨(Mv.ex e1).mut nD0, ?_, [], rfl, (fun _ h => nomatch h), upd_same⟩ (fun _ _ _ _ => trivial) (fun i x H2 H' hi pv hy => ?_) (fun H' pv => ?_)
    · obtain ⟨m, h1, h2⟩ := hp1
      exact ⟨m, h1, by rw [upd_ne (Ne.symm hDp)]; exact h2⟩
    · obtain ⟨e, hx⟩ := hy
      subst e
      have hx' : x = .int (i : Int) := by rw [hx]; show V.int ((0 : Int) + (i : Int)) = _; rw [Int.zero_add]
      subst hx'
      obtain ⟨m1, m2, ys, y1, y2, y3⟩ := pv
      refine ⟨hw _, he i _ hi m1 m2 _ fun y H3 hy mv hp3 => ⟨ys.map st, mv _ _ y3 hDp, ?_, ((m1.trans mv).mut nD0), ?_, ys ++ [y], ?_, ?_, ?_⟩⟩
      · rw [List.length_map, y1]
        exact Nat.lt_of_lt_of_le hi (Nat.le_trans hn (by decide))
      · obtain ⟨m, h1, h2⟩ := hp3
        exact ⟨m, h1, by rw [upd_ne (Ne.symm hDp)]; exact h2⟩
      · rw [List.length_append, y1]; rfl
      · intro z hz
        rcases List.mem_append.mp hz with hz | hz
        · exact y2 z hz
        · rw [List.mem_singleton.mp hz]; exact hy
      · rw [upd_same, List.map_append]; rfl
    · obtain ⟨m1, m2, ys, y1, y2, y3⟩ := pv
      exact q D ys H' nD0 y1 y2 m1 m2 y3⟩
end
/-! ### _law_word -/
theorem sc_word : FnScope ["_law_pump_here", "_law_letters_here", "_law_least", "_law_most", "_law_size_here", "_law_k"] ["_law_pump_here", "_law_letters_here", "_law_least", "_law_most"] (defScope (top 40)) := ⟨rfl, rfl, rfl, by decide +kernel, rfl, by decide +kernel, by decide +kernel⟩
def spWordL : Sp := fun vs H Q _ => ∃ (p : Addr) (l : Tx) (a b : Nat), vs = [.ref p, st l, .int a, .int b] ∧ l ≠ [] ∧ l.length ≤ 1000 ∧ a ≤ b ∧ b ≤ 10 ∧ PumpOk p H ∧ ∀ (x : Tx) H', (∀ c ∈ x, c ∈ l) → a ≤ x.length → x.length ≤ b → Mv p H H' → PumpOk p H' → Q (st x) H'
theorem ok_word (F : At K mg 40 "_law_word") (G : Gb mg) (DC : Df P w K mg base 1 "_law_cup" ["_law_pump_here", "_law_many"] spCup) : Df P w K mg base 2 "_law_word" ["_law_pump_here", "_law_letters_here", "_law_least", "_law_most"] spWordL := by
  refine Df.made (N := ["_law_pump_here", "_law_letters_here", "_law_least", "_law_most", "_law_size_here", "_law_k"]) F sc_word (fun _ _ _ _ _ _ us hl => match us, hl with | [_, _, _, _], _ => rfl) (fun vs H Q E h => ?_) (fun f cdv A outer s H vs Q E hr h => ?_)
  · obtain ⟨p, l, a, b, rfl, _⟩ := h; rfl
  refine ⟨_, pss_cons (ps_set (i := 4) sc_word.nd rfl (.inl rfl) (pe_op op_add (pv 2) (pe_df DC hr (by decide) (by rfl) (pa_cons (pv 0) (pa_cons (pe_op op_add (pe_op op_sub (pv 3) (pv 2)) pe_int) pa_nil)))))
    (pss_one (ps_ret (pe_join pe_str (pe_lc (own := [("_law_k", 5)]) (g := gName 5) rfl sc_word.nd (pi_range1 (by rfl) G.rng (pa_cons (pv 4) pa_nil)) (blkOk_by (own := [("_law_k", 5)]) (N := ["_law_pump_here", "_law_letters_here", "_law_least", "_law_most", "_law_size_here", "_law_k"]) (sc := defScope (top 40)) (by decide +kernel))
        (fun _ _ _ _ _ => pg_name (i := 5) sc_word.nd rfl (.inl rfl)) (fun _ _ _ _ _ => pts_nil)
        (fun _ _ _ _ _ => pe_ix ix_str (pv 1) (pe_df DC hr (by decide) (by rfl) (pa_cons (pv 0) (pa_cons (pe_callB call_len_str (by rfl) G.len bi_len (pa_cons (pv 1) pa_nil)) pa_nil))) (fun _ _ => rfl)))))), ?_⟩
  obtain ⟨p, l, a, b, rfl, hl, hz, hab, hb, hp, q⟩ := h
  refine ⟨.int a, rfl, cup_run (p := p) (m := (b : Int) - (a : Int) + 1) (ev_var rfl) (ev_op (ev_op (ev_var rfl) (ev_var rfl) rv_I0) ev_c rv_I0) (by omega) (by omega) hp fun d H1 h1 h2 mv hp1 => ?_⟩
  obtain ⟨k, rfl⟩ := Int.eq_ofNat_of_zero_le h1
  refine ⟨_, _, rfl, rfl, ?_⟩
  refine ⟨⟨_, rfl⟩, ?_⟩
  have hpos : 0 < l.length := List.length_pos_iff.mpr hl
  refine lc_words (p := p) (n := a + k) (ρ := fun y => ∃ c ∈ l, y = [c]) (ea_cons (ev_is (ev_var rfl) (by simp)) ea_nil) (by omega) hp1 (fun _ => rfl) (fun i H2 hi mv2 hp2 Q2 q2 => ?_) fun D ys H2 nD yl yr mv2 hp2 hD => ?_
  · refine ⟨st l, rfl, ?_⟩
    refine cup_run (p := p) (m := (l.length : Int)) (ev_var rfl) (ev_lenS (ev_var rfl) (small (by omega))) (by omega) (by omega) hp2 fun d H3 g1 g2 mv3 hp3 => ?_
    obtain ⟨k', rfl⟩ := Int.eq_ofNat_of_zero_le g1
    have hk : k' < l.length := by omega
    exact (rv_ixS' (x := l) (i := k') (c := l[k']) (by omega) (List.getElem?_eq_getElem hk)) H3 (Ex.refl H3) _ fun H4 e4 => q2 _ H4 ⟨_, List.getElem_mem hk, rfl⟩ (mv3.trans (Mv.ex e4)) (hp3.ex e4)
  · have hlen : ys.flatten.length = ys.length := by
      clear hD yl
      induction ys with
      | nil => rfl
      | cons y ys ih =>
        obtain ⟨c, _, rfl⟩ := yr y List.mem_cons_self
        have := ih fun z hz => yr z (List.mem_cons_of_mem _ hz)
        simp at this ⊢
        omega
    refine ⟨S [], D, ys.map S, rfl, rfl, .inl (sq_of (by rw [List.map_map]; exact hD)), ?_, ?_⟩
    · have h0 : (S []).length = 0 := rfl
      rw [h0, Nat.mul_zero, Nat.add_zero, sum_le, hlen]
      omega
    · rw [join_S]
      refine q _ H2 (fun c hc => ?_) (by omega) (by omega) (mv.trans mv2) hp2
      obtain ⟨y, hy, hcy⟩ := List.mem_flatten.mp hc
      obtain ⟨d, hd, rfl⟩ := yr y hy
      rw [List.mem_singleton.mp hcy]
      exact hd
section
variable {σ : L2.St} {H : Hp} {ta tb tc td : TE} {Q : VK} {E : XK} {p : Addr}
theorem word_run {l : Tx} {a b : Nat} (ha : Ev ta σ H (.ref p)) (hb : Ev tb σ H (st l)) (hc : Ev tc σ H (.int a)) (hd : Ev td σ H (.int b)) (hl : l ≠ []) (hz : l.length ≤ 1000) (hab : a ≤ b) (hb10 : b ≤ 10) (hp : PumpOk p H)
    (q : ∀ (x : Tx) H', (∀ c ∈ x, c ∈ l) → a ≤ x.length → x.length ≤ b → Mv p H H' → PumpOk p H' → Q (st x) H') : tCall spWordL [] E (tCons ta (tCons tb (tCons tc (tCons td tNil)))) σ H Q :=
  ha H (Ex.refl H) _ fun H1 e1 => hb H1 e1 _ fun H2 e2 => hc H2 (e1.trans e2) _ fun H3 e3 => hd H3 ((e1.trans e2).trans e3) _ fun H4 e4 =>
    ⟨p, l, a, b, rfl, hl, hz, hab, hb10, hp.ex (((e1.trans e2).trans e3).trans e4), fun x H' h1 h2 h3 h4 h5 => q x H' h1 h2 h3 ((Mv.ex (((e1.trans e2).trans e3).trans e4)).trans h4) h5⟩
end
end
end Ev
set_option Elab.async false
set_option linter.all false
set_option maxRecDepth 100000
set_option maxHeartbeats 4000000
namespace Ev
open PySem PySem.Spec PyProof.Rows L2 Evl StX LamX NdefX
/-! ### readings that tell of the very values and of the count of objects -/
abbrev VKK := Value → V → Hp → Nat → Prop
abbrev TEK := L2.St → Hp → Nat → VKK → Prop
structure EndsK where
  nx : L2.St → Hp → Nat → Prop
  rt : VKK
abbrev TSK := EndsK → L2.St → Hp → Nat → Prop
def EPK (X : Cx) (pins : List (Addr × Obj)) (σ : L2.St) (Q : VKK) (u : Value) (s' : Shared) : Prop := ∃ v H', Inv X pins σ H' s' ∧ RelV v u ∧ Q u v H' s'.toks
def SPK (X : Cx) (pins : List (Addr × Obj)) (D : EndsK) (f : Flow) (s' : Shared) : Prop :=
  match f with
  | .next => ∃ σ' H', Inv X pins σ' H' s' ∧ D.nx σ' H' s'.toks
  | .ret u => ∃ v σ' H', Inv X pins σ' H' s' ∧ RelV v u ∧ D.rt u v H' s'.toks
  | _ => False
structure PEK (X : Cx) (e : Expr) (t : TEK) : Prop where
  run : ∀ (pins : List (Addr × Obj)) (s : Shared) (σ : L2.St) (H : Hp) (Q : VKK), Inv X pins σ H s → t σ H s.toks Q → wpAny (model X.prog X.w) X.A (eval e X.env) (EPK X pins σ Q) X.xe s
structure PSK (X : Cx) (e : Stmt) (t : TSK) : Prop where
  run : ∀ (pins : List (Addr × Obj)) (s : Shared) (σ : L2.St) (H : Hp) (D : EndsK), Inv X pins σ H s → t D σ H s.toks → wpAny (model X.prog X.w) X.A (exec e X.env) (SPK X pins D) X.xe s
structure PSsK (X : Cx) (e : List Stmt) (t : TSK) : Prop where
  run : ∀ (pins : List (Addr × Obj)) (s : Shared) (σ : L2.St) (H : Hp) (D : EndsK), Inv X pins σ H s → t D σ H s.toks → wpAny (model X.prog X.w) X.A (execs e X.env) (SPK X pins D) X.xe s
theorem thnT {α : Type} {t : Sem α} {Q Q' : α → Shared → Prop} {M : Model} {A : Around} {E : Value → Shared → Prop} {s : Shared} (h : wpAny M A t Q E s) (hQ : ∀ a s', s.toks ≤ s'.toks → Q a s' → Q' a s') : wpAny M A t Q' E s :=
  wpAny_mono (wpAny_toks h) (fun a s' z => hQ a s' z.1 z.2) fun _ _ z => z.2
theorem thnFT {α : Type} {t : Sem α} {Q Q' : α → Shared → Prop} {M : Model} {A : Around} {E : Value → Shared → Prop} {s : Shared} (h : wpAny M A t Q (fun _ _ => False) s) (hQ : ∀ a s', s.toks ≤ s'.toks → Q a s' → Q' a s') : wpAny M A t Q' E s :=
  wpAny_mono (wpAny_toks h) (fun a s' z => hQ a s' z.1 z.2) fun _ _ z => z.2.elim
def tK (t : TE) : TEK := fun σ H n Q => t σ H fun v H' => ∀ u n', n ≤ n' → RelV v u → Q u v H' n'
def tKs (t : TS) : TSK := fun D σ H n => t { nx := fun σ' H' => ∀ n', n ≤ n' → D.nx σ' H' n', rt := fun v H' => ∀ u n', n ≤ n' → RelV v u → D.rt u v H' n' } σ H
section
variable {X : Cx}
theorem pek (e : Expr) {t : TE} (h : PE X e t) : PEK X e (tK t) :=
  ⟨fun pins s σ H Q I q => thnT (h.run pins s σ H _ I q) fun u s' hn ⟨v, H', I', r, q'⟩ => ⟨v, H', I', r, q' u _ hn r⟩⟩
theorem psk {e : Stmt} {t : TS} (h : PS X e t) : PSK X e (tKs t) :=
  ⟨fun pins s σ H D I q => thnT (h.run pins s σ H _ I q) fun f s' hn z => by
    cases f with
    | next => obtain ⟨σ', H', I', q'⟩ := z; exact ⟨σ', H', I', q' _ hn⟩
    | ret u => obtain ⟨v, σ', H', I', r, q'⟩ := z; exact ⟨v, σ', H', I', r, q' u _ hn r⟩
    | brk => obtain ⟨_, _, _, q'⟩ := z; exact q'.elim
    | cont => obtain ⟨_, _, _, q'⟩ := z; exact q'.elim⟩
def tSeqK (t u : TSK) : TSK := fun D σ H n => t { D with nx := u D } σ H n
theorem psk_cons {st : Stmt} {rest : List Stmt} {t u : TSK} (h1 : PSK X st t) (h2 : PSsK X rest u) : PSsK X (st :: rest) (tSeqK t u) := by
  refine ⟨fun pins s σ H D I h => ?_⟩
  refine wpAny_execs_cons (thn (h1.run pins s σ H { D with nx := u D } I h) fun f s1 q => ?_)
  cases f with
  | next =>
    obtain ⟨σ', H', I', q⟩ := q
    exact h2.run pins s1 σ' H' D I' q
  | ret v => exact q
  | brk => exact q
  | cont => exact q
theorem psk_one {st : Stmt} {t : TSK} (h1 : PSK X st t) : PSsK X [st] t := by
  refine ⟨fun pins s σ H D I h => ?_⟩
  refine wpAny_execs_cons (thn (h1.run pins s σ H D I h) fun f s1 q => ?_)
  cases f with
  | next => exact wpAny_execs_nil q
  | ret v => exact q
  | brk => exact q
  | cont => exact q
theorem pssk {ss : List Stmt} {t : TS} (h : PSs X ss t) : PSsK X ss (tKs t) :=
  ⟨fun pins s σ H D I q => thnT (h.run pins s σ H _ I q) fun f s' hn z => by
    cases f with
    | next => obtain ⟨σ', H', I', q'⟩ := z; exact ⟨σ', H', I', q' _ hn⟩
    | ret u => obtain ⟨v, σ', H', I', r, q'⟩ := z; exact ⟨v, σ', H', I', r, q' u _ hn r⟩
    | brk => obtain ⟨_, _, _, q'⟩ := z; exact q'.elim
    | cont => obtain ⟨_, _, _, q'⟩ := z; exact q'.elim⟩
def tRetK (te : TEK) : TSK := fun D σ H n => te σ H n D.rt
theorem psk_ret {e : Expr} {te : TEK} {pos : Pos} (he : PEK X e te) : PSK X (.Return (some e) pos) (tRetK te) := by
  refine ⟨fun pins s σ H D I h => ?_⟩
  exact wpAny_Return_some (thn (he.run pins s σ H _ I h) fun v s1 ⟨x, H1, I1, r1, q1⟩ => ⟨x, σ, H1, I1, r1, q1⟩)
def tIfK (c : TT) (t u : TSK) : TSK := fun D σ H n => c σ H fun b H1 => ∀ n', n ≤ n' → if b = true then t D σ H1 n' else u D σ H1 n'
theorem psk_if {c : Expr} {a b : List Stmt} {tc : TT} {t u : TSK} {pos : Pos} (hc : PT X c tc) (ha : PSsK X a t) (hb : PSsK X b u) : PSK X (.If c a b pos) (tIfK tc t u) := by
  refine ⟨fun pins s σ H D I h => ?_⟩
  refine wpAny_If (thnT (hc.run pins s σ H _ I h) fun d s1 hn ⟨H1, I1, q1⟩ => ?_)
  have q1 := q1 _ hn
  cases d with
  | true => exact ha.run pins s1 σ H1 D I1 q1
  | false => exact hb.run pins s1 σ H1 D I1 q1
/-! ### a list comprehension whose items are told -/
def LstO (acc : List Value) (k : Nat) : Obj := { cls := .type "list", data := .seq acc.toArray k }
def LkD (H : Hp) (D : Addr) (acc : List Value) : Prop := ∃ k ys, H D = some (.frz (LstO acc k) (.lst ys))
def tLcK (wi : TI) (g : TG) (te : TEK) (vs : List Nat) : TEK := fun σ H n Q => wi σ H fun J H1 => ∀ D n0, H1 D = none → n ≤ n0 → ∃ W : Nat → Nat → Hp → Nat → List Value → Prop,
  (∃ m, ∀ o, W 0 m (upd H1 D o) n0 []) ∧ ∀ i m H n1 acc, W i m H n1 acc → LkD H D acc →
    (J.stop i H ∧ ∀ n2, n1 ≤ n2 → Q (.ref D) (.ref D) H n2) ∨
    (J.go i H ∧ ∀ x H', J.yld i H x H' → g x (wipe σ vs) H' fun σ2 H2 => wipe σ2 vs = wipe σ vs ∧ ∀ n3, n1 ≤ n3 → te σ2 H2 n3 fun u y H4 n4 => H4 D = H D ∧ acc.length < 100000 ∧ ∃ m', m' < m ∧ ∀ o, W (i + 1) m' (upd H4 D o) n4 (acc ++ [u]))
theorem lock_at {pins : List (Addr × Obj)} {σ : L2.St} {H : Hp} {s : Shared} {D : Addr} {acc : List Value} {k : Nat} {ys : List V} (I : Inv X pins σ H s) (h : H D = some (.lst ys)) (ho : s.heap.get? D = some (LstO acc k)) : Inv X pins σ (upd H D (.frz (LstO acc k) (.lst ys))) s := by
  obtain ⟨od, I'⟩ := I.lock h trivial
  have := (I'.hok D _ upd_same).1
  rw [ho] at this
  cases this
  exact I'
theorem pek_lc {elt tg iter : Expr} {scope : Scope} {own : List (Str × Nat)} {pos : Pos} {wi : TI} {g : TG} {te : TEK} (hc : X.calm = true) (hN : X.N.Nodup) (hi : PI X tg iter wi) (ok : BlkOk X.N X.env.scope scope own)
    (hg : ∀ (s : Shared) (H : Hp) (C : Addr) (cl : List (Str × Addr)) (fp : List Addr), PG (X.blk s H scope (compEnvC scope cl C X.env) fp) tg g)
    (he : ∀ (s : Shared) (H : Hp) (C : Addr) (cl : List (Str × Addr)) (fp : List Addr), PEK (X.blk s H scope (compEnvC scope cl C X.env) fp) elt te) (hs : ∀ x, foldedSetIterable iter X.env x = pure x := by intro _; rfl) :
    PEK X (.ListComp elt [⟨tg, iter, [], 0⟩] scope pos) (tLcK wi g te (own.map (·.2))) := by
  refine ⟨fun pins s σ H Q I h => ?_⟩
  rw [eval_ListComp]
  have hfree : ∀ y ∈ scope.names, y.2 = .free → ∃ c, X.env.cells.lookup y.1 = some c := fun y hy e => by
    rcases ok.free y hy e with k | k
    · exact I.ok.has _ (.inl k)
    · exact I.ok.has _ (.inr k)
  refine wpAny_comprehension_free rfl hs (closure_ok hfree) ok.kind (fun y hy e => by rw [ok.uniq y hy, e])
    (thnT (hi.run pins s σ H _ I h) fun xv s1 t1 hx => thnT hx fun itv s2 t2 h2 => ?_)
  obtain ⟨it, fp, tn, J, H2, e, I2, T, st2, f2, q⟩ := h2
  subst e
  refine wpAny_newObj_type (newEnv_comp ?_) (by show 0 ≤ sizeLine; decide)
  generalize hD : s2.heap.objs.size = D
  have hDn : H2 D = none := I2.hok.fresh (Nat.le_of_eq hD)
  obtain ⟨W, ⟨m0, w0⟩, turn⟩ := q D s2.toks hDn (Nat.le_trans t1 t2)
  -- the new list
  generalize hs3 : ({ s2 with heap := s2.heap.push { cls := .type "list", data := .seq ([] : List Value).toArray } } : Shared) = s3
  have I3 : Inv X pins σ (upd H2 D (.lst [])) s3 := by
    rw [← hs3]
    refine I2.laid (t' := s2.toks) (fun b o e => Heap.get?_push_of_some _ e) (Nat.le_of_eq hD) ⟨Nat.zero_le _, [], 0, .nil, ?_⟩
    rw [← hD]
    exact Heap.get?_push_size _ rfl
  have h3 : s3.heap = s2.heap.push { cls := .type "list", data := .seq ([] : List Value).toArray } := by rw [← hs3]
  have h3t : s3.toks = s2.toks := by rw [← hs3]
  have sz : ∀ b ∈ fp, b < s2.heap.objs.size := fun b hb => by
    obtain ⟨o, e, _⟩ := T.obj _ _ st2 b hb
    exact Heap.lt_size e
  have f3 : ∀ b ∈ fp, FpOk X pins (upd H2 D (.lst [])) b ∧ b < s3.heap.objs.size := fun b hb => by
    have hlt := sz b hb
    refine ⟨⟨?_, (f2 b hb).2⟩, by rw [h3, Heap.size_push]; exact Nat.lt_succ_of_lt hlt⟩
    rw [upd_ne (by rw [← hD]; exact Nat.ne_of_lt hlt)]
    exact (f2 b hb).1
  have hDfp : D ∉ fp := fun hb => absurd (sz D hb) (by rw [hD]; exact Nat.lt_irrefl _)
  have st3 : tn 0 s3.heap := T.keep _ _ _ st2 fun b _ o e => by rw [h3]; exact Heap.get?_push_of_some _ e
  have I4 := block_start I3 ok hN f3
  have pg := hg s3 (upd H2 D (.lst [])) s3.heap.objs.size (cellsFrom (s3.heap.objs.size + 1) scope.names (cloFrom X.env.cells scope.names [])) fp
  have pe := he s3 (upd H2 D (.lst [])) s3.heap.objs.size (cellsFrom (s3.heap.objs.size + 1) scope.names (cloFrom X.env.cells scope.names [])) fp
  show codeAny _ _ (.compStart (.ListComp elt [⟨tg, iter, [], 0⟩] scope pos) 0 (.ref it) (.ref D) (compEnvC scope (cellsFrom (s3.heap.objs.size + 1) scope.names (cloFrom X.env.cells scope.names [])) s3.heap.objs.size X.env)) (compPost (model X.prog X.w) X.A X.xe none (EPK X pins σ Q) (.ref D) s3.heap.objs.size) { s3 with heap := pushCells (s3.heap.push { cls := .type "dict", data := .dict #[] }) scope.names }
  have nfp : ∀ b ∈ fp, (upd H2 D (.lst [])) b = none := fun b hb => (f3 b hb).1.1
  generalize hce : compEnvC scope (cellsFrom (s3.heap.objs.size + 1) scope.names (cloFrom X.env.cells scope.names [])) s3.heap.objs.size X.env = ce at I4 pg pe ⊢
  have cL : ce.locals = s3.heap.objs.size := by subst hce; rfl
  have h3D : s3.heap.get? D = some (LstO [] 0) := by rw [h3, ← hD]; exact Heap.get?_push_size _ rfl
  generalize hH3 : upd H2 D (.lst []) = H3 at I3 I4 pg pe nfp f3
  have H3D : H3 D = some (.lst []) := by rw [← hH3]; exact upd_same
  generalize hs4 : ({ s3 with heap := pushCells (s3.heap.push { cls := .type "dict", data := .dict #[] }) scope.names } : Shared) = s4 at I4 ⊢
  have keep4 : ∀ b o, s3.heap.get? b = some o → s4.heap.get? b = some o := fun b o e => by rw [← hs4]; exact pushCells_keeps _ _ _ _ (Heap.get?_push_of_some _ e)
  have st4 : tn 0 s4.heap := T.keep _ _ _ st3 fun b _ o e => keep4 b o e
  have h4t : s4.toks = s2.toks := by rw [← hs4]; exact h3t
  have I4' := lock_at I4 H3D (keep4 _ _ h3D)
  have w0 := w0 (.frz (LstO [] 0) (.lst []))
  have stat : ∀ {σ' : L2.St} {H' : Hp} {s' : Shared}, Inv (X.blk s3 H3 scope ce fp) [] σ' H' s' → (∀ b ∈ fp, H' b = none) → ∀ b ∈ fp, FpOk (X.blk s3 H3 scope ce fp) [] H' b := fun {σ' H' s'} I' hn b hb =>
    ⟨hn b hb, (I'.ok.exf b hb).1, I'.ok.exfs b hb, .inl hb, fun x c e => (I'.ok.exf b hb).2 x c e, fun p hp => absurd (show p ∈ ([] : List (Addr × Obj)) ++ [] from hp) (by simp)⟩
  have loop : codeAny (model X.prog X.w) X.A (.compLoop (.ListComp elt [⟨tg, iter, [], 0⟩] scope pos) 0 (.ref it) (.ref D) ce) (compPost (model X.prog X.w) X.A X.xe none (EPK X pins σ Q) (.ref D) s3.heap.objs.size) s4 := by
    refine compLoop_any (fun n s' => ∃ i H' acc, Inv (X.blk s3 H3 scope ce fp) [] (wipe σ (own.map (·.2))) H' s' ∧ tn i s'.heap ∧ (∀ b ∈ fp, H' b = none) ∧ LkD H' D acc ∧ W i n H' s'.toks acc) ?_ m0 ⟨0, upd H2 D (.frz (LstO [] 0) (.lst [])), [], ?_, st4, fun b hb => ?_, ⟨0, [], upd_same⟩, ?_⟩
    rotate_left
    · rw [← hH3, upd_upd] at I4'
      rw [← hH3]
      exact I4'
    · have := nfp b hb
      rw [← hH3] at this
      have hbD : b ≠ D := fun z => hDfp (z ▸ hb)
      rw [upd_ne hbD] at this ⊢
      exact this
    · rw [h4t]; exact w0
    rintro n s5 ⟨i, H5, acc, I5, st5, n5, lk5, w5⟩
    obtain ⟨k5, ys5, hD5⟩ := id lk5
    rcases turn i n H5 s5.toks acc w5 lk5 with ⟨stop, qq⟩ | ⟨go, step⟩
    · have td := T.done (X.blk s3 H3 scope ce fp) rfl rfl rfl hc i [] s5 _ H5 (fun _ _ => False) I5 (stat I5 n5) st5 stop
      refine thnFT td fun r s6 t6 ⟨hr, I6⟩ => ?_
      subst hr
      have I7 : Inv X pins σ H5 s6 := I3.call' (ch := fp) I6.os (by
        have u := I6.base
        exact u) I6.hok I6.bare fun b hb => ⟨(f3 b hb).1.2.2.2.1, (f3 b hb).1.2.1, (f3 b hb).1.2.2.2.2.1, (f3 b hb).1.2.2.2.2.2⟩
      have nC : H5 s3.heap.objs.size = none := by
        have z : H5 ce.locals = none := I6.free
        rw [cL] at z
        exact z
      obtain ⟨m, hn, _⟩ := I6.loc
      have hn : s6.heap.Ns ce.locals m := hn
      rw [cL] at hn
      have f := I3.fpOk (Nat.le_refl _) nC
      obtain ⟨f0, f1, f2, f3, f4, f5⟩ := f
      exact ⟨m, hn, fun h'' sb => ⟨.ref D, H5, I7.turned (t' := s6.toks) (fun b o hb e => (sb.2 b hb).trans e) f0 f1 f3 f4 f5, rfl, qq _ t6⟩⟩
    · have ti := T.item (X.blk s3 H3 scope ce fp) rfl rfl rfl hc i [] s5 _ H5 (fun _ _ => False) I5 (stat I5 n5) st5 go
      refine thnFT ti fun r s6 t6 ⟨u, hr, h6⟩ => ?_
      subst hr
      refine thnFT h6 fun _ s7 t7 ⟨x, H7, I7, r7, y7, st7, n7⟩ => ?_
      have I7' := I7.pinned (stat I7 n7) (T.obj _ _ st7)
      refine thnFT (pg.run _ s7 _ H7 x u _ I7' r7 (step x H7 y7)) fun _ s8 t8 ⟨σ8, H8, I8, hw8, q8⟩ => ?_
      refine wpAny_tests_nil ?_
      have q8 := q8 s8.toks (Nat.le_trans t6 (Nat.le_trans t7 t8))
      refine thnFT (pe.run _ s8 σ8 H8 _ I8 q8) fun z s10 t10 ⟨yv, H10, I10, r10, hD10, hz10, m', hm, nx⟩ => ?_
      -- the item is put in
      rw [hD5] at hD10
      have I10' := I10.unlock hD10 (fun o' u' e => by
        have e : H3 D = some (.frz o' u') := e
        rw [H3D] at e; cases e)
      obtain ⟨ho10, _, its10, nn10, ri10, e10⟩ := I10.hok D _ hD10
      have eacc : its10 = acc := by
        rw [ho10] at e10
        have := congrArg (fun o : Option Obj => (o.map (·.data))) e10
        simp only [LstO, Option.map_some, Option.some.injEq, Data.seq.injEq] at this
        have h1 := congrArg Array.toList this.1
        simpa using h1.symm
      subst eacc
      have hl := ri10.length
      refine append_at (hsz := by rw [List.size_toArray]; exact Nat.le_trans (Nat.le_of_lt hz10) (by decide)) ho10 fun h' sb ho' => ?_
      have wr : Inv (X.blk s3 H3 scope ce fp) ([] ++ pinsAt fp s7.heap) σ8 (upd (upd H10 D (.lst ys5)) D (.lst (ys5 ++ [yv]))) { s10 with heap := h', toks := s10.toks } :=
        I10'.write (t' := s10.toks) (by rw [upd_same]; trivial) (.inl rfl) (fun b u hb q => (sb.2 b hb).trans q) ⟨_, ho'⟩ ⟨by rw [List.length_append, hl]; exact Nat.le_trans (Nat.succ_le_of_lt hz10) (by decide), its10 ++ [z], k5 + 1, ri10.append (.cons r10 .nil), by
          rw [ho']
          simp⟩
      rw [upd_upd] at wr
      have ho'' : ({ s10 with heap := h', toks := s10.toks } : Shared).heap.get? D = some (LstO (its10 ++ [z]) (k5 + 1)) := by
        show h'.get? D = _
        rw [ho']
        simp [LstO]
      have I11 := lock_at wr upd_same ho''
      rw [upd_upd] at I11
      have pin' : ∀ b ∈ fp, ∀ o, s7.heap.get? b = some o → h'.get? b = some o ∧ upd H10 D (.frz (LstO (its10 ++ [z]) (k5 + 1)) (.lst (ys5 ++ [yv]))) b = none := fun b hb o e =>
        let w := I11.pin (b, o) (List.mem_append_right _ (List.mem_append_right _ (mem_pinsAt hb e)))
        ⟨w.1, w.2.1⟩
      have hl2 : (wipe σ (own.map (·.2))).length = σ8.length := by rw [← hw8, wipe_length]
      refine ⟨m', hm, i + 1, _, its10 ++ [z], (I11.unpinned (pins := [])).weak hl2 (fun j v e => ?_), T.keep _ _ _ st7 fun b hb o e => (pin' b hb o e).1, fun b hb => ?_, ⟨k5 + 1, ys5 ++ [yv], upd_same⟩, nx _⟩
      · rw [← hw8] at e
        exact (wipe_some e).1
      · obtain ⟨o, e, _⟩ := T.obj _ _ st7 b hb
        exact (pin' b hb o e).2
  exact codeAny_compStart_list loop (T.self X.A 0 _ _ _ st4 loop)
end
end Ev
set_option Elab.async false
set_option linter.all false
set_option maxRecDepth 100000
set_option maxHeartbeats 4000000
namespace Ev
open PySem PySem.Spec PyProof.Rows L2 Evl StX LamX NdefX
open PySem.Builtin PySem.Builtin.Str in
theorem join_told {prog : Program} {w : World} {A : Around} {E : Value → Shared → Prop} {s : Shared} {x : Str} {t : Tok} {Q : Value → Shared → Prop} {D : Addr} {l : List (Str × Tok)} (hl : s.heap.IsList D (strValues l).toArray) (hok : JoinOk x (l.map (·.1)) = true)
    (h1 : ∀ p, l = [p] → Q (.str p.1 p.2) s) (h2 : l.length ≠ 1 → Q (.str (Txt.join x (l.map (·.1))) s.toks) { s with toks := s.toks + 1 }) : wpAny (model prog w) A (call (.builtin "str.join") [.str x t, .ref D]) Q E s := by
  unfold JoinOk at hok
  rw [Bool.not_eq_true'] at hok
  refine call_meets F.slot_str_join (typeIs_str _ _ _) F.entry_str_join (F.args_str_join_2 _ _) (meets_str_join_list x t D l hok) ⟨hl, ?_⟩
  have hz := joinFit_length hok
  match l, hz, h1, h2 with
  | [], hz, _, h2 => exact ⟨hz, h2 (by simp)⟩
  | [p], _, h1, _ => exact h1 p rfl
  | _ :: _ :: _, hz, _, h2 => exact ⟨hz, h2 (by simp)⟩
section
variable {X : Cx}
def tJoinK (te : TEK) : TEK := fun σ H n Q => ∀ n1, n ≤ n1 → te σ H n1 fun _ v H' n2 => ∃ (D : Addr) (l : List (Str × Tok)), v = .ref D ∧ LkD H' D (strValues l) ∧ ((l.map (·.1)).map (·.length)).sum ≤ 16777216 ∧
  (∀ p, l = [p] → ∀ n3, n2 ≤ n3 → Q (.str p.1 p.2) (.str p.1) H' n3) ∧ (l.length ≠ 1 → ∀ t n3, n2 ≤ t → t < n3 → Q (.str (Txt.join Str.empty (l.map (·.1))) t) (.str (Txt.join Str.empty (l.map (·.1)))) H' n3)
theorem pek_join {o e : Expr} {te : TEK} {apos pos : Pos} (ho : PE X o (tC (.str Str.empty))) (he : PEK X e te) (hs : starEach [e] X.env = [(false, eval e X.env)] := by rfl) (hbase : attributeBase o "join" X.env (eval o X.env) = eval o X.env := by rfl) (hline : (apos.endLine == pos.line) = true := by rfl) :
    PEK X (.Call (.Attribute o "join" apos) [e] [] pos) (tJoinK te) := by
  refine ⟨fun pins s σ H Q I h => ?_⟩
  refine PySem.Call_method1 hbase hs hline (thnT (ho.run pins s σ H (fun v H1 => v = .str Str.empty ∧ H1 = H) I ⟨rfl, rfl⟩) fun v s1 t1 ⟨x, H1, I1, r1, q1⟩ => ?_)
  obtain ⟨rfl, rfl⟩ := q1
  obtain ⟨t, rfl⟩ := _root_.id r1
  refine ⟨"str", _, F.plainAttrs_str, F.slot_str_join, F.type_str_join, typeIs_str _ _ _, (fun _ e => nomatch e), Calls.callWith_builtin rfl (Calls.evalArgs_plain (Calls.spliced_cons ?_))⟩
  refine thn (he.run pins s1 σ H1 _ I1 (h s1.toks t1)) fun u s2 ⟨y, H2, I2, r2, D, l, e, lk, hz, q1, q2⟩ => Calls.spliced_nil ?_
  subst e
  obtain rfl : u = Value.ref D := r2
  obtain ⟨k, ys, lk⟩ := lk
  have ho := (I2.hok D _ lk).1
  refine join_told (l := l) ⟨_, ho, rfl, k, rfl⟩ (joinOk_of (by simpa [Str.empty, Str.length] using hz)) (fun p e => ⟨.str p.1, H2, I2, ⟨_, rfl⟩, q1 p e _ (Nat.le_refl _)⟩) (fun e => ⟨.str (Txt.join Str.empty (l.map (·.1))), H2, I2.tok _, ⟨_, rfl⟩, q2 e _ _ (Nat.le_refl _) (Nat.lt_succ_self _)⟩)
def tIxSK (ta tb : TE) : TEK := fun σ H n Q => ta σ H fun x H1 => tb σ H1 fun y H2 => ∃ z i c, x = .str z ∧ y = .int i ∧ z.length ≤ sizeLine ∧ atI z.cps.toList i = some c ∧ ∀ t n', n ≤ t → t < n' → Q (.str ⟨#[c]⟩ t) (.str ⟨#[c]⟩) H2 n'
theorem pek_ixS {a b : Expr} {ta tb : TE} {pos : Pos} (ha : PE X a ta) (hb : PE X b tb) (hs : PlainIx b) : PEK X (.Subscript a b pos) (tIxSK ta tb) := by
  refine ⟨fun pins s σ H Q I h => ?_⟩
  refine Subscript_ (thnT (ha.run pins s σ H _ I h) fun v s1 t1 ⟨x, H1, I1, r1, q1⟩ => thnT (hb.run pins s1 σ H1 _ I1 q1) fun u s2 t2 ⟨y, H2, I2, r2, q2⟩ => ?_)
  obtain ⟨z, i, c, rfl, rfl, hz, hc, q⟩ := q2
  obtain ⟨t, rfl⟩ := r1
  obtain ⟨t', rfl⟩ := r2
  obtain ⟨j, h1, h2, h3, h4, h5⟩ := atI_get hc
  have hl : z.cps.toList.length = z.length := by simp [Str.length]
  rw [hl] at h1 h4 h5
  have hn := line63
  exact tail_any (typeIs_str s2 z t) slot_str_getitem.lookup (getItem_str (c := c) (by
    have e1 : decide (i < -(2 ^ 63 : Int)) = false := decide_eq_false (by omega)
    have e2 : decide (i ≥ 2 ^ 63) = false := decide_eq_false (by omega)
    rw [e1, e2, Bool.or_false]) (by rw [h1]; simpa using h2) ⟨.str ⟨#[c]⟩, H2, I2.tok _, ⟨_, rfl⟩, q _ _ (Nat.le_trans t1 t2) (Nat.lt_succ_self _)⟩) (hs _ _)
end
/-! ### defs that tell -/
abbrev SpK := List V → Hp → Nat → VKK → Prop
def CRK (outer : List Env) (P : Program) (w : World) (H : Hp) (s : Shared) (Q : VKK) (r : Result) (s' : Shared) : Prop :=
  match r with
  | .ok (.ret u) => CE outer P w H s (fun v H' => Q u v H' s'.toks) u s'
  | _ => False
structure FnK (P : Program) (w : World) (K : PySem.W.Frag) (mg : Str → Option Value) (base : Heap) (k : Nat) (f : Addr) (fd : FuncData) (ps : List Str) (sp : SpK) : Prop where
  len : ∀ vs H n Q, sp vs H n Q → vs.length = ps.length
  run : ∀ (A : Around) (outer : List Env) (s : Shared) (H : Hp) (args : Args) (us : List Value) (vs : List V) (Q : VKK), Room k A → Env0 P w K mg base A outer s H → BindsTo s fd args (ps.zip us) → Vals vs us → sp vs H s.toks Q →
    codeAny (model P w) A (.call (.ref f) args) (CRK outer P w H s Q) s
structure DfK (P : Program) (w : World) (K : PySem.W.Frag) (mg : Str → Option Value) (base : Heap) (k : Nat) (x : Str) (ps : List Str) (sp : SpK) : Prop where
  ex : ∃ (f : Addr) (fd : FuncData), FnK P w K mg base k f fd ps sp ∧ mg x = some (.ref f) ∧ PySem.W.keepIn K (.ref f) = true ∧ Binds K fd ps []
section
variable {P : Program} {w : World} {K : PySem.W.Frag} {mg : Str → Option Value} {base : Heap} {x : Str} {ps N : List Str} {sp : SpK} {k j i : Nat}
theorem DfK.made (F : At K mg i x) (Sc : FnScope N ps (defScope (top i)))
    (hb : ∀ (kV doc pm : Value) (an : Option Addr) (cdv ct : Value) (us : List Value), us.length = ps.length → bindArgs (PySem.W.fnOf x x (defArgs (top i)) (defBody (top i)) (defScope (top i)) .none kV doc pm an cdv ct) ⟨us, []⟩ = pure (ps.zip us))
    (len : ∀ vs H n Q, sp vs H n Q → vs.length = ps.length)
    (hbody : ∀ (f : Addr) (cdv : Value) (A : Around) (outer : List Env) (s : Shared) (H : Hp) (vs : List V) (Q : VKK), Room k (A.deeper (envOfC x (defScope (top i)) s.heap.objs.size f cdv)) → sp vs H s.toks Q →
      ∃ t, PSsK (cxOf CX0 P w K mg base N x (defScope (top i)) f cdv A outer s H E0).nox (defBody (top i)) t ∧ ∀ n, s.toks ≤ n → t { nx := fun _ _ _ => False, rt := Q } (start N vs) H n) : DfK P w K mg base (k + 1) x ps sp := by
  obtain ⟨f, fd, F, g⟩ := F
  refine ⟨f, fd, ?_, g, F.kp, F.bindsN hb⟩
  obtain ⟨oc, od, dV, kV, doc, pm, an, cdv, ct, osl, rfl, lk, hcd, _, _⟩ := F.ex
  refine ⟨len, fun A outer s H args us vs Q hr e0 hb r hsp => ?_⟩
  have hl := len _ _ _ _ hsp
  have KX : K.In s.heap := e0.mod.kin.keeps fun b o e => (e0.bs b o e).1
  have lim : s.heap.NoLimit := e0.mod.nolimit.keeps fun b o e => (e0.bs b o e).1
  have hkind : ∀ y ∈ ps.zip us, (defScope (top i)).names.lookup y.1 = some .local ∨ ((defScope (top i)).names.lookup y.1 = some .cell ∧ ((cellsFrom (s.heap.objs.size + 1) (defScope (top i)).names []).lookup y.1).isSome = true) := fun ⟨n, v⟩ hy => by
    rcases Sc.par n (List.of_mem_zip hy).1 with q | q
    · exact .inl q
    · exact .inr ⟨q, PySem.W.cellsFrom_some _ _ _ (.inl q)⟩
  refine codeAny_call_function hr.depth (KX _ _ lk) rfl Sc.co Sc.gen rfl (PySem.W.codeRec_of KX hcd) (hb _ _ _ _ ?_)
  refine wpAny_with_toks (Nat.le_refl _) (wpAny_newFunctionEnv_cells Sc.kind hkind fun env he s1 x hn => ?_)
  subst he
  refine ⟨lim.keeps x.toInCall.keep, codeAny_func ?_⟩
  obtain ⟨t, ht, hq⟩ := hbody f cdv A outer s H vs Q (hr.deeper _) hsp
  have I := inv_start (CX := CX0) (E := E0) Sc hr.hd e0 hl r x
  refine wpAny_mono (ht.run [] s1 (start N vs) H _ (I.wish _) (hq _ hn)) (fun fl s' hs => ?_) fun e s' hs => hs.elim
  cases fl with
  | ret u =>
    obtain ⟨v, σ', H', J, rv, q⟩ := hs
    exact ⟨v, H', J.os, J.bare, J.base, J.hok, rv, q⟩
  | next =>
    obtain ⟨σ', H', J, q⟩ := hs
    exact q.elim
  | brk => exact hs.elim
  | cont => exact hs.elim
end
section
variable {X : Cx} {k j : Nat} {x : Str} {ps : List Str} {sp : SpK} {p pos : Pos} {e : Expr} {es : List Expr} {t : TA}
def tCallK (sp : SpK) (t : TA) : TEK := fun σ H n Q => t σ H fun vs H1 => ∀ n', n ≤ n' → sp vs H1 n' Q
theorem pek_df (D : DfK X.prog X.w X.K X.mg X.base k x ps sp) (hr : Room j X.A) (hk : k ≤ j) (hg : Gl X x) (ha : PA X (e :: es) t) (hdb : (x == ("__debug__" : Str)) = false := by decide)
    (he : starEach (e :: es) X.env = (false, eval e X.env) :: starEach es X.env := by rfl) (hpl : (backTo pos (starEach es X.env)).any (·.1) = false := by rfl) : PEK X (.Call (.Name x p) (e :: es) [] pos) (tCallK sp t) := by
  obtain ⟨f, fd, F, g, kp, b⟩ := D.ex
  refine ⟨fun pins s σ H Q I h => ?_⟩
  refine wpAny_Call_Name_kw (ld_glob I hg g ?_ hdb)
  refine PySem.W.callWith_K (h₀ := X.base) I.ok.mod.kin kp (thnT (ha.run pos pins s σ H _ I h) fun us s1 t1 ⟨vs, H1, I1, r, q⟩ => ⟨I1.kIn, ?_⟩) he hpl
  have q := q _ t1
  have hl : (us ++ []).length = ps.length := by rw [List.append_nil, ← r.length]; exact F.len _ _ _ _ q
  have hb := b s1 us I1.kIn hl
  rw [List.append_nil] at hb
  refine wpAny_call (codeAny_mono (F.run X.A X.stack s1 H1 ⟨us, []⟩ us vs Q (hr.mono hk) I1.env0 hb r q) fun r s' hq => ?_)
  cases r with
  | error e => exact (show False from hq).elim
  | ok fl =>
    cases fl with
    | ret u => exact I1.after hq
    | next => exact (show False from hq).elim
    | brk => exact (show False from hq).elim
    | cont => exact (show False from hq).elim
end
end Ev
set_option Elab.async false
set_option linter.all false
set_option maxRecDepth 100000
set_option maxHeartbeats 4000000
namespace Ev
open PySem PySem.Spec PyProof.Rows L2 Evl StX LamX NdefX
section
variable {X : Cx}
theorem lcK_it {J : It} {n : Nat} {G : Hp → Prop} {Y : Nat → Hp → V → Hp → Prop} (w : Walk J n G Y) {g : TG} {te : TEK} {vs : List Nat} {σ : L2.St} {H1 : Hp} {D : Addr} {n0 : Nat} {Qd : Hp → Nat → Prop} (Pv : Nat → Hp → Nat → List Value → Prop) (h0 : ∀ o, Pv 0 (upd H1 D o) n0 [])
    (hG : ∀ i H k acc, i ≤ n → Pv i H k acc → G H)
    (hs : ∀ i x H H' n1 acc, i < n → Pv i H n1 acc → LkD H D acc → Y i H x H' → g x (wipe σ vs) H' fun σ2 H2 => wipe σ2 vs = wipe σ vs ∧ ∀ n3, n1 ≤ n3 → te σ2 H2 n3 fun u y H4 n4 => H4 D = H D ∧ acc.length < 100000 ∧ ∀ o, Pv (i + 1) (upd H4 D o) n4 (acc ++ [u]))
    (hd : ∀ H n1 n2 acc, Pv n H n1 acc → LkD H D acc → n1 ≤ n2 → Qd H n2) :
    ∃ W : Nat → Nat → Hp → Nat → List Value → Prop, (∃ m, ∀ o, W 0 m (upd H1 D o) n0 []) ∧ ∀ i m H n1 acc, W i m H n1 acc → LkD H D acc →
      (J.stop i H ∧ ∀ n2, n1 ≤ n2 → Qd H n2) ∨
      (J.go i H ∧ ∀ x H', J.yld i H x H' → g x (wipe σ vs) H' fun σ2 H2 => wipe σ2 vs = wipe σ vs ∧ ∀ n3, n1 ≤ n3 → te σ2 H2 n3 fun u y H4 n4 => H4 D = H D ∧ acc.length < 100000 ∧ ∃ m', m' < m ∧ ∀ o, W (i + 1) m' (upd H4 D o) n4 (acc ++ [u])) := by
  refine ⟨fun i m H k acc => m = n - i ∧ i ≤ n ∧ Pv i H k acc, ⟨n, fun o => ⟨by simp, Nat.zero_le _, h0 o⟩⟩, ?_⟩
  rintro i m H n1 acc ⟨rfl, hi, p⟩ lk
  have q := hG i H n1 acc hi p
  by_cases hlt : i < n
  · refine .inr ⟨w.goes i H hlt q, fun x H' y => ?_⟩
    have z := hs i x H H' n1 acc hlt p lk (w.yields i H x H' hlt q y)
    have e : (fun (σ2 : L2.St) (H2 : Hp) => wipe σ2 vs = wipe σ vs ∧ ∀ n3, n1 ≤ n3 → te σ2 H2 n3 fun u y H4 n4 => H4 D = H D ∧ acc.length < 100000 ∧ ∃ m', m' < n - i ∧ ∀ o, (m' = n - (i + 1) ∧ i + 1 ≤ n ∧ Pv (i + 1) (upd H4 D o) n4 (acc ++ [u]))) =
        (fun (σ2 : L2.St) (H2 : Hp) => wipe σ2 vs = wipe σ vs ∧ ∀ n3, n1 ≤ n3 → te σ2 H2 n3 fun u y H4 n4 => H4 D = H D ∧ acc.length < 100000 ∧ ∀ o, Pv (i + 1) (upd H4 D o) n4 (acc ++ [u])) := by
      have e2 : ∀ (u : Value) (H4 : Hp) (n4 : Nat), (∃ m', m' < n - i ∧ ∀ o, (m' = n - (i + 1) ∧ i + 1 ≤ n ∧ Pv (i + 1) (upd H4 D o) n4 (acc ++ [u]))) = ∀ o, Pv (i + 1) (upd H4 D o) n4 (acc ++ [u]) := fun u H4 n4 =>
        propext ⟨fun ⟨m', _, h⟩ o => (h o).2.2, fun h => ⟨n - (i + 1), by omega, fun o => ⟨rfl, by omega, h o⟩⟩⟩
      simp only [e2]
    rw [e]
    exact z
  · have e : i = n := by omega
    subst e
    exact .inl ⟨w.stops H q, fun n2 h2 => hd H n1 n2 acc p lk h2⟩
/-- a pair of texts behind a written word, its tokens told -/
def tRepK (t1 t2 : TEK) : TEK := fun σ H n Q => ∀ n0, n < n0 → t1 σ H n0 fun u1 v1 H1 n1 => t2 σ H1 n1 fun u2 v2 H2 n2 => ∃ (o m : Tx) (k1 k2 : Tok), u1 = .str (S o) k1 ∧ v1 = st o ∧ u2 = .str (S m) k2 ∧ v2 = st m ∧ k1 ≠ 0 ∧ k2 ≠ 0 ∧ (k1 = k2 → o = m) ∧
  ∀ p ob, H2 p = none → TokV (upd H2 p (.frz ob (.tup [.str "replace", st o, st m]))) (.ref p) (.rep o m) → Q (.ref p) (.ref p) (upd H2 p (.frz ob (.tup [.str "replace", st o, st m]))) n2
theorem pek_rep {e1 e2 : Expr} {t1 t2 : TEK} {j k : Nat} {cp pos : Pos} (h1 : PEK X e1 t1) (h2 : PEK X e2 t2)
    (hst : starEach [.Constant (.str "replace") j cp, e1, e2] X.env = [(false, eval (.Constant (.str "replace") j cp) X.env), (false, eval e1 X.env), (false, eval e2 X.env)] := by rfl) :
    PEK X (.Tuple [.Constant (.str "replace") j cp, e1, e2] k pos) (tRepK t1 t2) := by
  refine ⟨fun pins s σ H Q I h => ?_⟩
  refine wpAny_Tuple_spliced ?_
  rw [hst]
  refine Calls.spliced_cons (Calls.Constant_str (k := j) (pos := cp) ?_)
  have I1 := I.tok (s.toks + 1)
  refine Calls.spliced_cons (thn (h1.run pins _ σ H _ I1 (h (s.toks + 1) (Nat.lt_succ_self _))) fun u1 s1 ⟨v1, H1, J1, r1, q1⟩ => ?_)
  refine Calls.spliced_cons (thn (h2.run pins s1 σ H1 _ J1 q1) fun u2 s2 ⟨v2, H2, J2, r2, q2⟩ => Calls.spliced_nil ?_)
  obtain ⟨o, m, k1, k2, rfl, rfl, rfl, rfl, n1, n2, n12, q⟩ := q2
  refine ⟨Nat.le_of_ble_eq_true rfl, ?_⟩
  have hf : H2 s2.heap.objs.size = none := J2.hok.fresh (Nat.le_refl _)
  refine ⟨.ref s2.heap.objs.size, _, J2.laid (t' := s2.toks) (o := .frz { cls := .type "tuple", data := .seq [Value.str "replace" s.toks, .str (S o) k1, .str (S m) k2].toArray } (.tup [.str "replace", st o, st m])) (fun b u e => Heap.get?_push_of_some _ e) (Nat.le_refl _) ?_, rfl,
    q _ _ hf ⟨_, _, 0, s.toks, k1, k2, rfl, upd_same, rfl, rfl, n1, n2, n12⟩⟩
  refine ⟨Heap.get?_push_size _ rfl, Nat.le_of_ble_eq_true rfl, _, .cons ⟨_, rfl⟩ (.cons ⟨_, rfl⟩ (.cons ⟨_, rfl⟩ .nil)), ⟨_, Heap.get?_push_size _ rfl, rfl, _, rfl⟩⟩
theorem pe_told {e : Expr} {t : TEK} (h : PEK X e t) : PE X e (fun σ H Q => ∀ n, t σ H n fun _ v H' _ => Q v H') := ⟨fun pins s σ H Q I q => thn (h.run pins s σ H _ I (q _)) fun u s' ⟨v, H', I', r, q'⟩ => ⟨v, H', I', r, q'⟩⟩
end
section
variable {P : Program} {w : World} {K : PySem.W.Frag} {mg : Str → Option Value} {base : Heap}
/-! ### _law_word, with its token -/
def spWordK : SpK := fun vs H n Q => ∃ (p : Addr) (l : Tx) (a b : Nat), vs = [.ref p, st l, .int a, .int b] ∧ l ≠ [] ∧ l.length ≤ 1000 ∧ a ≤ b ∧ b ≤ 10 ∧ PumpOk p H ∧ ∀ (x : Tx) H' t n', (∀ c ∈ x, c ∈ l) → a ≤ x.length → x.length ≤ b → Mv p H H' → PumpOk p H' → n ≤ t → t < n' → Q (.str (S x) t) (st x) H' n'
theorem ok_wordK (F : At K mg 40 "_law_word") (G : Gb mg) (DC : Df P w K mg base 1 "_law_cup" ["_law_pump_here", "_law_many"] spCup) : DfK P w K mg base 2 "_law_word" ["_law_pump_here", "_law_letters_here", "_law_least", "_law_most"] spWordK := by
  refine DfK.made (N := ["_law_pump_here", "_law_letters_here", "_law_least", "_law_most", "_law_size_here", "_law_k"]) F sc_word (fun _ _ _ _ _ _ us hl => match us, hl with | [_, _, _, _], _ => rfl) (fun vs H n Q h => ?_) (fun f cdv A outer s H vs Q hr h => ?_)
  · obtain ⟨p, l, a, b, rfl, _⟩ := h; rfl
  refine ⟨_, psk_cons (psk (ps_set (i := 4) sc_word.nd rfl (.inl rfl) (pe_op op_add (pv 2) (pe_df DC hr (by decide) (by rfl) (pa_cons (pv 0) (pa_cons (pe_op op_add (pe_op op_sub (pv 3) (pv 2)) pe_int) pa_nil))))))
    (psk_one (psk_ret (pek_join pe_str (pek_lc (own := [("_law_k", 5)]) (g := gName 5) (te := tIxSK (tVar 1) (tCall spCup [] E0 (tCons (tVar 0) (tCons (tCB (fun xs H Q => ∃ z, xs = [V.str z] ∧ z.length ≤ sizeLine ∧ Q (.int (z.length : Int)) H) (tCons (tVar 1) tNil)) tNil)))) rfl sc_word.nd (pi_range1 (by rfl) G.rng (pa_cons (pv 4) pa_nil)) (blkOk_by (own := [("_law_k", 5)]) (N := ["_law_pump_here", "_law_letters_here", "_law_least", "_law_most", "_law_size_here", "_law_k"]) (sc := defScope (top 40)) (by decide +kernel))
        (fun _ _ _ _ _ => pg_name (i := 5) sc_word.nd rfl (.inl rfl))
        (fun _ _ _ _ _ => pek_ixS (pv 1) (pe_df DC hr (by decide) (by rfl) (pa_cons (pv 0) (pa_cons (pe_callB call_len_str (by rfl) G.len bi_len (pa_cons (pv 1) pa_nil)) pa_nil))) (fun _ _ => rfl)))))), fun n hn => ?_⟩
  obtain ⟨p, l, a, b, rfl, hl, hz, hab, hb, hp, q⟩ := h
  refine ⟨.int a, rfl, cup_run (p := p) (m := (b : Int) - (a : Int) + 1) (ev_var rfl) (ev_op (ev_op (ev_var rfl) (ev_var rfl) rv_I0) ev_c rv_I0) (by omega) (by omega) hp fun d H1 h1 h2 mv hp1 => ?_⟩
  obtain ⟨k, rfl⟩ := Int.eq_ofNat_of_zero_le h1
  refine ⟨_, _, rfl, rfl, ?_⟩
  intro n1 hn1
  have hpos : 0 < l.length := List.length_pos_iff.mpr hl
  intro n2 hn2
  refine ⟨.int ((a : Int) + k), rfl, (a : Int) + k, rfl, by omega, by omega, fun D n3 nD hn3 => ?_⟩
  have hDp : D ≠ p := fun z => by
    obtain ⟨m, _, h2⟩ := hp1
    rw [z, h2] at nD
    cases nD
  rw [show ((a : Int) + k).toNat = a + k by omega]
  refine lcK_it (walk_range (lo := 0) (n := a + k)) (fun i H' n' acc => Mv p H1 H' ∧ PumpOk p H' ∧ s.toks ≤ n' ∧ ∃ ps : List (Nat × Nat), acc = strValues (ps.map fun z => (S [z.1], z.2)) ∧ ps.length = i ∧ (∀ z ∈ ps, z.1 ∈ l) ∧ (∀ z ∈ ps, s.toks ≤ z.2 ∧ z.2 < n'))
    (fun o => ⟨(Mv.refl).mut nD, ?_, by omega, [], rfl, rfl, (fun _ h => nomatch h), (fun _ h => nomatch h)⟩) (fun _ _ _ _ _ _ => trivial) (fun i x H2 H' n4 acc hi pv lk hy => ?_) (fun H2 n4 n5 acc pv lk h45 => ?_)
  · obtain ⟨m, g1, g2⟩ := hp1
    exact ⟨m, g1, by rw [upd_ne (Ne.symm hDp)]; exact g2⟩
  · obtain ⟨rfl, hx⟩ := hy
    obtain ⟨m1, hp2, hs4, ps, rfl, p2, p3, p4⟩ := pv
    refine ⟨rfl, fun n5 h5 => ⟨st l, rfl, ?_⟩⟩
    refine cup_run (p := p) (m := (l.length : Int)) (ev_var rfl) (ev_lenS (ev_var rfl) (small (by omega))) (by omega) (by omega) hp2 fun d H3 g1 g2 mv3 hp3 => ?_
    obtain ⟨k', rfl⟩ := Int.eq_ofNat_of_zero_le g1
    have hk : k' < l.length := by omega
    refine ⟨S l, (k' : Int), l[k'], rfl, rfl, small (by rw [S_len]; omega), by rw [S_list]; exact atI_nat (List.getElem?_eq_getElem hk), fun t n6 ht1 ht2 => ⟨?_, ?_, fun o => ⟨?_, ?_, ?_, ps ++ [(l[k'], t)], ?_, ?_, ?_, ?_⟩⟩⟩
    · obtain ⟨kk, ys, lk⟩ := lk
      rw [lk]
      exact mv3 _ _ lk hDp
    · show (List.map _ _).length < 100000
      rw [List.length_map, List.length_map, p2]
      omega
    · exact ((m1.trans mv3).mut nD)
    · obtain ⟨m, f1, f2⟩ := hp3
      exact ⟨m, f1, by rw [upd_ne (Ne.symm hDp)]; exact f2⟩
    · omega
    · simp [strValues]
    · rw [List.length_append, p2]; rfl
    · intro z hz
      rcases List.mem_append.mp hz with hz | hz
      · exact p3 z hz
      · rw [List.mem_singleton.mp hz]; exact List.getElem_mem hk
    · intro z hz
      rcases List.mem_append.mp hz with hz | hz
      · have := p4 z hz
        omega
      · rw [List.mem_singleton.mp hz]
        show s.toks ≤ t ∧ t < n6
        omega
  · obtain ⟨m1, hp2, hs4, ps, rfl, p2, p3, p4⟩ := pv
    have hfl : (ps.map fun z => [z.1]).flatten = ps.map (·.1) := by
      clear p2 p3 p4 lk
      induction ps with
      | nil => rfl
      | cons z ps ih => simp [ih]
    have htx : (ps.map fun z => (S [z.1], z.2)).map (·.1) = (ps.map fun z => [z.1]).map S := by simp
    have hin : ∀ c ∈ ps.map (·.1), c ∈ l := fun c hc => by
      obtain ⟨z, hz, rfl⟩ := List.mem_map.mp hc
      exact p3 z hz
    refine ⟨D, ps.map fun z => (S [z.1], z.2), rfl, lk, ?_, ?_, ?_⟩
    · rw [htx, sum_le, hfl, List.length_map, p2]
      omega
    · intro z hz n6 h6
      obtain ⟨y, rfl⟩ : ∃ y, ps = [y] := by
        match ps, hz with
        | [y], _ => exact ⟨y, rfl⟩
      have hz' : (S [y.1], y.2) = z := by simpa using hz
      subst hz'
      have := p4 y List.mem_cons_self
      exact q [y.1] H2 y.2 n6 hin (by simp only [List.length_cons, List.length_nil] at p2 ⊢; omega) (by simp only [List.length_cons, List.length_nil] at p2 ⊢; omega) (mv.trans m1) hp2 this.1 (Nat.lt_of_lt_of_le this.2 (Nat.le_trans h45 h6))
    · intro hne t n6 ht1 ht2
      rw [htx]
      have ee : Txt.join Str.empty ((ps.map fun z => [z.1]).map S) = S (ps.map (·.1)) := by
        rw [← hfl]
        exact join_S _
      rw [ee]
      exact q (ps.map (·.1)) H2 t n6 hin (by rw [List.length_map]; omega) (by rw [List.length_map]; omega) (mv.trans m1) hp2 (by omega) ht2
end
end Ev
set_option Elab.async false
set_option linter.all false
set_option maxRecDepth 100000
set_option maxHeartbeats 4000000
namespace Ev
open PySem PySem.Spec PyProof.Rows L2 Evl StX LamX NdefX
/-! ### what stays while the pump moves -/
section
variable {p : Addr} {H H' : Hp} {v : V}
theorem rd_mv {a : Addr} {u : HO} (hp : PumpOk p H) (mv : Mv p H H') (hne : ∀ n, u ≠ .lst [.int n]) (h : Rd H a u) : Rd H' a u := by
  obtain ⟨n, _, hp⟩ := hp
  have hap : a ≠ p := fun z => by
    subst z
    rcases h with h | ⟨o, h⟩ <;> rw [hp] at h
    · exact hne n (Option.some.inj h).symm
    · cases h
  rcases h with h | ⟨o, h⟩
  · exact .inl (mv _ _ h hap)
  · exact .inr ⟨o, mv _ _ h hap⟩
theorem at_mv {a : Addr} {u : HO} (hp : PumpOk p H) (mv : Mv p H H') (hne : ∀ n, u ≠ .lst [.int n]) (h : H a = some u) : H' a = some u := by
  obtain ⟨n, _, hp⟩ := hp
  exact mv _ _ h fun z => by
    subst z
    rw [hp] at h
    exact hne n (Option.some.inj h).symm
theorem PairV.mv {q : Nat × Nat} (hp : PumpOk p H) (mv : Mv p H H') (h : PairV H v q) : PairV H' v q := by
  obtain ⟨a, h1, h2⟩ := h
  exact ⟨a, h1, rd_mv hp mv (fun _ z => nomatch z) h2⟩
theorem refs_ne {R : V → α → Prop} {vs : List V} {os : List α} (h : Paired R vs os) (hR : ∀ v o, R v o → ∃ a, v = .ref a) (n : Int) : HO.lst vs ≠ .lst [.int n] := fun z => by
  cases z
  cases h with
  | cons r _ =>
    obtain ⟨a, e⟩ := hR _ _ r
    cases e
theorem PairV.ref {q : Nat × Nat} (h : PairV H v q) : ∃ a, v = .ref a := let ⟨a, h1, _⟩ := h; ⟨a, h1⟩
theorem OdV.ref {o : Od} (h : OdV H v o) : ∃ a, v = .ref a := by
  cases o with
  | letters ps => exact let ⟨a, l, vs, h1, h2, h3, h4⟩ := h; ⟨a, h1⟩
  | _ => exact let ⟨a, h1, h2⟩ := h; ⟨a, h1⟩
theorem OdV.mv {o : Od} (hp : PumpOk p H) (mv : Mv p H H') (h : OdV H v o) : OdV H' v o := by
  cases o with
  | letters ps =>
    obtain ⟨a, l, vs, h1, h2, h3, h4⟩ := h
    exact ⟨a, l, vs, h1, rd_mv hp mv (fun _ z => nomatch z) h2, rd_mv hp mv (refs_ne h4 fun _ _ => PairV.ref) h3, L2.Paired.mapP h4 fun x y z => z.mv hp mv⟩
  | _ => exact let ⟨a, h1, h2⟩ := h; ⟨a, h1, rd_mv hp mv (fun _ z => nomatch z) h2⟩
theorem TokV.mv {o : Od} (hp : PumpOk p H) (mv : Mv p H H') (h : TokV H v o) : TokV H' v o := by
  cases o with
  | rep o n =>
    obtain ⟨a, ob, k, t0, t1, t2, h1, h2, h3⟩ := h
    exact ⟨a, ob, k, t0, t1, t2, h1, at_mv hp mv (fun _ z => nomatch z) h2, h3⟩
  | _ => trivial
theorem OdsK.mv {os : List Od} (hp : PumpOk p H) (mv : Mv p H H') (h : OdsK H v os) : OdsK H' v os := by
  obtain ⟨a, vs, h1, h2, h3⟩ := h
  exact ⟨a, vs, h1, at_mv hp mv (refs_ne h3 fun _ _ z => z.1.ref) h2, L2.Paired.mapP h3 fun x y z => ⟨z.1.mv hp mv, z.2.mv hp mv⟩⟩
theorem OdsL.mv {os : List Od} (hp : PumpOk p H) (mv : Mv p H H') (h : OdsL H v os) : OdsL H' v os := by
  obtain ⟨a, vs, h1, h2, h3⟩ := h
  exact ⟨a, vs, h1, at_mv hp mv (refs_ne h3 fun _ _ => OdV.ref) h2, L2.Paired.mapP h3 fun x y z => z.mv hp mv⟩
end
/-- one drawn order -/
structure OdG (l : Tx) (b : Nat) (H : Hp) (v : V) (o : Od) : Prop where
  od : OdV H v o
  tk : TokV H v o
  ok : OkO o
  nm : ∀ c ∈ namedM o, c ∈ l
  sz : (stOf o).length ≤ b
/-- the list within a letters order is new -/
def NL (H H' : Hp) (v : V) : Prop := ∀ a l, v = .ref a → Rd H' a (.tup [.str "letters", .ref l]) → H l = none
theorem none_mv {p : Addr} {H H' : Hp} {a : Addr} (hp : PumpOk p H') (mv : Mv p H H') (h : H' a = none) : H a = none := by
  cases e : H a with
  | none => rfl
  | some o =>
    by_cases z : a = p
    · obtain ⟨m, _, h2⟩ := hp
      rw [z, h2] at h; cases h
    · rw [mv _ _ e z] at h; cases h
section
variable {P : Program} {w : World} {K : PySem.W.Frag} {mg : Str → Option Value} {base : Heap}
/-! ### _law_letters -/
theorem sc_letters : FnScope ["_law_pump_here", "_law_some", "_law_pairs", "_law_used", "_law_turn", "_law_sign"] ["_law_pump_here", "_law_some"] (defScope (top 41)) := ⟨rfl, rfl, rfl, by decide +kernel, rfl, by decide +kernel, by decide +kernel⟩
def spLettersL : Sp := fun vs H Q _ => ∃ (p : Addr) (l : Tx), vs = [.ref p, st l] ∧ l ≠ [] ∧ l.length ≤ 1000 ∧ PumpOk p H ∧ ∀ (v : V) (ps : List (Nat × Nat)) H', OdV H' v (.letters ps) → OkO (.letters ps) → (∀ c ∈ namedM (.letters ps), c ∈ l) → NL H H' v → Mv p H H' → PumpOk p H' → Q v H'
theorem inV_st {c : Nat} {us : List Nat} : inV (st [c]) (us.map fun c => st [c]) = decide (c ∈ us) := by
  rw [inV_sg, List.contains_eq_mem]
theorem ok_lettersL (F : At K mg 41 "_law_letters") (G : Gb mg) (DC : Df P w K mg base 1 "_law_cup" ["_law_pump_here", "_law_many"] spCup) (DO : Df P w K mg base 2 "_law_one_of" ["_law_pump_here", "_law_some"] spOneOf) : Df P w K mg base 3 "_law_letters" ["_law_pump_here", "_law_some"] spLettersL := by
  refine Df.made (N := ["_law_pump_here", "_law_some", "_law_pairs", "_law_used", "_law_turn", "_law_sign"]) F sc_letters (fun _ _ _ _ _ _ us hl => match us, hl with | [_, _], _ => rfl) (fun vs H Q E h => ?_) (fun f cdv A outer s H vs Q E hr h => ?_)
  · obtain ⟨p, m, rfl, _⟩ := h; rfl
  refine ⟨_, pss_cons (ps_par (i := 2) (j := 3) rfl sc_letters.nd rfl rfl (by decide) rfl rfl (pa_cons (pe_lst pa_nil) (pa_cons (pe_lst pa_nil) pa_nil)) rfl)
    (pss_cons (ps_for PassesOwn.never rfl (pi_range1 (by rfl) G.rng (pa_cons (pe_df DC hr (by decide) (by rfl) (pa_cons (pv 0) (pa_cons pe_int pa_nil))) pa_nil)) (pg_name (i := 4) sc_letters.nd rfl (.inl rfl))
      (pss_cons (ps_set (i := 5) sc_letters.nd rfl (.inl rfl) (pe_df DO hr (by decide) (by rfl) (pa_cons (pv 0) (pa_cons (pv 1) pa_nil))))
      (pss_one (ps_if (pt_cmpR op_notIn_seq (pv 5) (pv 3) rfl)
        (pss_cons (ps_expr (pe_bm PySem.F.plainAttrs_list PySem.F.slot_list_append PySem.F.type_list_append mt_append (pv 3) (pa_cons (pv 5) pa_nil)))
        (pss_one (ps_expr (pe_bm PySem.F.plainAttrs_list PySem.F.slot_list_append PySem.F.type_list_append mt_append (pv 2) (pa_cons (pe_tup (pa_cons (pv 5) (pa_cons (pe_df DO hr (by decide) (by rfl) (pa_cons (pv 0) (pa_cons (pv 1) pa_nil))) pa_nil))) pa_nil))))) pss_nil))))
    (pss_one (ps_ret (pe_tup (pa_cons pe_str (pa_cons (pv 2) pa_nil)))))), ?_⟩
  obtain ⟨p, l, rfl, hl, hz, hp, q⟩ := h
  have hnp : ∀ {G : Hp} {a : Addr}, PumpOk p G → G a = none → a ≠ p := fun h n z => by
    obtain ⟨m, _, h2⟩ := h
    rw [z, h2] at n
    cases n
  refine ⟨sz_of (n := 0) (Nat.zero_le _), fun R hR => ⟨sz_of (n := 0) (Nat.zero_le _), fun U hU => ⟨_, _, rfl, ?_⟩⟩⟩
  have hRp := hnp hp hR
  have e1 : Ex H (upd H R (.lst [])) := Ex.new hR
  have hp1 := hp.ex e1
  have hUp := hnp hp1 hU
  have e2 : Ex (upd H R (.lst [])) (upd (upd H R (.lst [])) U (.lst [])) := Ex.new hU
  have hRU : R ≠ U := fun z => by rw [← z, upd_same] at hU; cases hU
  have hUn : H U = none := fresh_back e1 hU
  have hp2 := hp1.ex e2
  refine cup_run (p := p) (m := 4) (ev_var rfl) ev_c (by decide) (by decide) hp2 fun d H1 d1 d2 mv hp3 => ?_
  obtain ⟨k, rfl⟩ := Int.eq_ofNat_of_zero_le d1
  refine ⟨(k : Int), rfl, by omega, by omega, for_range (lo := 0) (n := (k : Int).toNat) (fun i σ H' => ∃ (y4 y5 : Option V) (vs : List V) (ps : List (Nat × Nat)), σ = [some (.ref p), some (st l), some (.ref R), some (.ref U), y4, y5] ∧ Mv p H H' ∧ PumpOk p H' ∧
    H' R = some (.lst vs) ∧ Paired (PairV H') vs ps ∧ H' U = some (.lst (ps.map fun z => st [z.1])) ∧ (ps.map (·.1)).Nodup ∧ (∀ z ∈ ps, z.1 ∈ l ∧ z.2 ∈ l) ∧ ps.length ≤ i)
    ⟨none, none, [], [], rfl, ((Mv.ex (e1.trans e2)).trans mv), hp3, mv _ _ (e2 _ _ upd_same) hRp, .nil, mv _ _ upd_same hUp, .nil, (fun _ h => nomatch h), Nat.zero_le _⟩ (fun i σ' H' hi ⟨y4, y5, vs, ps, hσ, mv', hp', hR', hps, hU', hnd, hin, hlen⟩ => ?_) (fun σ' H' ⟨y4, y5, vs, ps, hσ, mv', hp', hR', hps, hU', hnd, hin, hlen⟩ => ?_)⟩
  · subst hσ
    refine oneof_run (ev_var rfl) (ev_var rfl) hl hz hp' fun c H2 hc mv2 hp4 => ?_
    have hR2 := mv2 _ _ hR' hRp
    have hU2 := mv2 _ _ hU' hUp
    have hps2 := L2.Paired.mapP hps fun x y z => PairV.mv hp' mv2 z
    refine s_when (b := !decide (c ∈ ps.map (·.1))) (et_test (ev_is (ev_op (ev_var rfl) (ev_var rfl) (rv_niL (sq_of hU2) rfl (by simp [List.all_eq_true, flatV]))) (by rw [show (ps.map fun z => st [z.1]) = (ps.map (·.1)).map (fun c => st [c]) by rw [List.map_map]; rfl, inV_st]))) (fun hb H3 e3 => ?_) (fun hb H3 e3 => ?_)
    · have hnin : c ∉ ps.map (·.1) := by simpa using hb
      refine q_app (l := U) (e3 _ _ hU2) (ev_var rfl) (ev_var rfl) (by rw [List.length_map]; omega) fun H4 e4 => ?_
      have hne : ∀ {a : Addr} {o : HO} , H4 a = some o → a ≠ U → upd H4 U (.lst ((ps.map fun z => st [z.1]) ++ [st [c]])) a = some o := fun h n => by rw [upd_ne n]; exact h
      have e34 := e3.trans e4
      have hp5 : PumpOk p (upd H4 U (.lst ((ps.map fun z => st [z.1]) ++ [st [c]]))) := let ⟨m, a, b⟩ := hp4.ex e34; ⟨m, a, hne b (Ne.symm hUp)⟩
      have hR5 := hne (e34 _ _ hR2) hRU
      refine ⟨.ref R, rfl, ⟨Or.inl ⟨rfl, vs, sq_of hR5⟩, ?_⟩⟩
      refine ⟨st [c], rfl, oneof_run (ev_var rfl) (ev_var rfl) hl hz hp5 fun d H6 hd mv6 hp6 => ⟨sz_of (n := 2) (Nat.le_of_ble_eq_true rfl), fun T hT => ?_⟩⟩
      have hRT : R ≠ T := fun z => by
        have := mv6 _ _ hR5 hRp
        rw [z, hT] at this
        cases this
      have hUT : U ≠ T := fun z => by
        have := mv6 _ _ (show upd H4 U (.lst ((ps.map fun z => st [z.1]) ++ [st [c]])) U = _ from upd_same) hUp
        rw [z, hT] at this
        cases this
      have hTp := hnp hp6 hT
      refine ⟨R, vs, .ref T, rfl, rfl, ?_, ?_, ?_⟩
      · rw [upd_ne hRT]; exact mv6 _ _ hR5 hRp
      · exact Nat.lt_of_le_of_lt (by rw [paired_len hps2]; omega) (show (1000 : Nat) < sizeLine by decide)
      · have hH : Mv p H4 (upd H4 U (.lst ((ps.map fun z => st [z.1]) ++ [st [c]]))) ∨ True := .inr trivial
        have stay : ∀ a o, H2 a = some o → a ≠ p → a ≠ U → a ≠ R → upd (upd H6 T (.tup [st [c], st [d]])) R (.lst (vs ++ [.ref T])) a = some o := fun a o h n1 n2 n3 => by
          rw [upd_ne n3, upd_ne (fun z => by
            have := mv6 _ _ (hne (e34 _ _ h) n2) n1
            rw [z, hT] at this
            cases this)]
          exact mv6 _ _ (hne (e34 _ _ h) n2) n1
        have tst : ∀ a xs, Rd H2 a (.tup xs) → Rd (upd (upd H6 T (.tup [st [c], st [d]])) R (.lst (vs ++ [.ref T]))) a (.tup xs) := fun a xs h => by
          have g : ∀ o, H2 a = some o → (∀ ys, o ≠ .lst ys) → upd (upd H6 T (.tup [st [c], st [d]])) R (.lst (vs ++ [.ref T])) a = some o := fun o h hn => stay a o h (fun z => by
              obtain ⟨m, _, hm⟩ := hp4
              subst z; rw [hm] at h; cases h; exact hn _ rfl) (fun z => by subst z; rw [hU2] at h; cases h; exact hn _ rfl) (fun z => by subst z; rw [hR2] at h; cases h; exact hn _ rfl)
          rcases h with h | ⟨o, h⟩
          · exact .inl (g _ h fun _ z => nomatch z)
          · exact .inr ⟨o, g _ h fun _ z => nomatch z⟩
        refine ⟨_, _, vs ++ [.ref T], ps ++ [(c, d)], rfl, ?_, ?_, upd_same, ?_, ?_, ?_, ?_, ?_⟩
        · intro a o ha hap
          refine stay a o (mv2 _ _ (mv' _ _ ha hap) hap) hap (fun z => ?_) (fun z => ?_)
          · rw [z, hUn] at ha; cases ha
          · rw [z, hR] at ha; cases ha
        · obtain ⟨m, a, b⟩ := hp6
          exact ⟨m, a, by rw [upd_ne (Ne.symm hRp), upd_ne (Ne.symm hTp)]; exact b⟩
        · exact paired_app (L2.Paired.mapP hps2 fun x y z => let ⟨a, h1, h2⟩ := z; ⟨a, h1, tst _ _ h2⟩) (.cons ⟨T, rfl, .inl (by rw [upd_ne (Ne.symm hRT), upd_same])⟩ .nil)
        · rw [upd_ne (Ne.symm hRU), upd_ne hUT, List.map_append]
          exact mv6 _ _ upd_same hUp
        · rw [List.map_append, List.nodup_append]
          refine ⟨hnd, by simp, fun a ha b hb => ?_⟩
          have : b = c := by simpa using hb
          subst this
          exact fun z => hnin (z ▸ ha)
        · intro z hz
          rcases List.mem_append.mp hz with hz | hz
          · exact hin z hz
          · rw [List.mem_singleton.mp hz]; exact ⟨hc, hd⟩
        · rw [List.length_append]
          simp only [List.length_cons, List.length_nil]
          omega
    · exact ⟨_, _, vs, ps, rfl, (mv'.trans mv2).trans (Mv.ex e3), hp4.ex e3, e3 _ _ hR2, L2.Paired.mapP hps2 fun x y z => z.mono e3, e3 _ _ hU2, hnd, hin, by omega⟩
  · subst hσ
    refine s_retU (eu_tup (ea_cons ev_c (ea_cons (ev_var rfl) ea_nil)) len2) fun T H3 nT e3 hT => ?_
    refine q (.ref T) ps H3 ⟨T, R, vs, rfl, .inl hT, .inl (e3 _ _ hR'), L2.Paired.mapP hps fun x y z => z.mono e3⟩ ⟨hnd, by omega⟩ (fun c hc => ?_) (fun a l' e h => ?_) (mv'.trans (Mv.ex e3)) (hp'.ex e3)
    obtain ⟨z, hz, hc⟩ := List.mem_flatMap.mp hc
    have := hin z hz
    simp at hc
    rcases hc with rfl | rfl
    · exact this.1
    · exact this.2
    · cases e
      have : l' = R := by
        rcases h with h | ⟨o, h⟩ <;> rw [hT] at h
        · cases h; rfl
        · cases h
      rw [this]
      exact hR
end
end Ev
set_option Elab.async false
set_option linter.all false
set_option maxRecDepth 100000
set_option maxHeartbeats 4000000
namespace Ev
open PySem PySem.Spec PyProof.Rows L2 Evl StX LamX NdefX
theorem OdG.mono {l : Tx} {b : Nat} {H H' : Hp} {v : V} {o : Od} (e : Ex H H') (h : OdG l b H v o) : OdG l b H' v o := ⟨h.od.mono e, h.tk.mono e, h.ok, h.nm, h.sz⟩
theorem OdG.mv {l : Tx} {b : Nat} {p : Addr} {H H' : Hp} {v : V} {o : Od} (hp : PumpOk p H) (e : Mv p H H') (h : OdG l b H v o) : OdG l b H' v o := ⟨h.od.mv hp e, h.tk.mv hp e, h.ok, h.nm, h.sz⟩
theorem pump_ne {p : Addr} {G : Hp} {a : Addr} (h : PumpOk p G) (n : G a = none) : a ≠ p := fun z => by
  obtain ⟨m, _, h2⟩ := h
  rw [z, h2] at n
  cases n
theorem PumpOk.upd {p : Addr} {G : Hp} {a : Addr} {o : HO} (h : PumpOk p G) (n : a ≠ p) : PumpOk p (upd G a o) := let ⟨m, a, b⟩ := h; ⟨m, a, by rw [upd_ne (Ne.symm n)]; exact b⟩
theorem nl_tup {H H' : Hp} {a : Addr} {xs : List V} (h : H' a = some (.tup xs)) (hn : ∀ l, xs ≠ [.str "letters", .ref l]) : NL H H' (.ref a) := fun b l e g => by
  cases e
  rcases g with g | ⟨o, g⟩ <;> rw [h] at g
  · cases g; exact absurd rfl (hn l)
  · cases g
theorem nl_frz {H H' : Hp} {a : Addr} {ob : Obj} {xs : List V} (h : H' a = some (.frz ob (.tup xs))) (hn : ∀ l, xs ≠ [.str "letters", .ref l]) : NL H H' (.ref a) := fun b l e g => by
  cases e
  rcases g with g | ⟨o, g⟩ <;> rw [h] at g
  · cases g
  · cases g; exact absurd rfl (hn l)
theorem Mv.mut' {p q : Addr} {H H' : Hp} {o : HO} (e : Mv p H H') (hp : PumpOk p H') (h : H' q = none) : Mv p H (L2.upd H' q o) := fun a u ha n => by
  rw [upd_ne (fun z => by
    have := e a u ha n
    rw [z, h] at this
    cases this)]
  exact e a u ha n
section
variable {P : Program} {w : World} {K : PySem.W.Frag} {mg : Str → Option Value} {base : Heap}
section
variable {σ : L2.St} {H : Hp} {ta tb : TE}
/-- [..][i], the list made on the way -/
theorem ev_ixNew {xs : List V} {i : Nat} {v : V} (ha : EvL ta σ H xs) (hb : ∀ H1, Ex H H1 → Ev tb σ H1 (.int (i : Int))) (hv : xs[i]? = some v) : Ev (tOp (rIxL K) ta tb) σ H v :=
  ev_opL1 ha hb fun p H1 h1 _ => rv_ixL (sq_of h1) (atI_nat hv)
end
/-! ### _law_order -/
theorem sc_order : FnScope ["_law_pump_here", "_law_letters_here", "_law_drops", "_law_way"] ["_law_pump_here", "_law_letters_here", "_law_drops"] (defScope (top 42)) := ⟨rfl, rfl, rfl, by decide +kernel, rfl, by decide +kernel, by decide +kernel⟩
def spOrderL : Sp := fun vs H Q _ => ∃ (p : Addr) (l : Tx) (dr : Nat), vs = [.ref p, st l, .int dr] ∧ l ≠ [] ∧ l.length ≤ 1000 ∧ dr ≤ 1 ∧ PumpOk p H ∧ ∀ (v : V) (o : Od) H', OdG l (if dr = 0 then 3 else 28) H' v o → NL H H' v → Mv p H H' → PumpOk p H' → Q v H'
theorem ok_orderL (F : At K mg 42 "_law_order") (G : Gb mg) (DC : Df P w K mg base 1 "_law_cup" ["_law_pump_here", "_law_many"] spCup) (DW : Df P w K mg base 2 "_law_word" ["_law_pump_here", "_law_letters_here", "_law_least", "_law_most"] spWordL)
    (DK : DfK P w K mg base 2 "_law_word" ["_law_pump_here", "_law_letters_here", "_law_least", "_law_most"] spWordK) (DL : Df P w K mg base 3 "_law_letters" ["_law_pump_here", "_law_some"] spLettersL) : Df P w K mg base 4 "_law_order" ["_law_pump_here", "_law_letters_here", "_law_drops"] spOrderL := by
  refine Df.made (N := ["_law_pump_here", "_law_letters_here", "_law_drops", "_law_way"]) F sc_order (fun _ _ _ _ _ _ us hl => match us, hl with | [_, _, _], _ => rfl) (fun vs H Q E h => ?_) (fun f cdv A outer s H vs Q E hr h => ?_)
  · obtain ⟨p, m, dr, rfl, _⟩ := h; rfl
  refine ⟨_, pss_cons (ps_set (i := 3) sc_order.nd rfl (.inl rfl) (pe_df DC hr (by decide) (by rfl) (pa_cons (pv 0) (pa_cons pe_int pa_nil))))
    (pss_cons (ps_if (pt_cmpR op_lt (pv 3) pe_int (nomark _)) (pss_one (ps_ret (pe_told (pek_rep (pek_df DK hr (by decide) (by rfl) (pa_cons (pv 0) (pa_cons (pv 1) (pa_cons pe_int (pa_cons pe_int pa_nil))))) (pek_df DK hr (by decide) (by rfl) (pa_cons (pv 0) (pa_cons (pv 1) (pa_cons pe_int (pa_cons pe_int pa_nil))))))))) pss_nil)
    (pss_cons (ps_if (pt_cmpR op_lt (pv 3) pe_int (nomark _)) (pss_one (ps_ret (pe_tup (pa_cons (pe_ix ix_list (pe_lst (pa_cons pe_str (pa_cons pe_str pa_nil))) (pe_op op_sub (pv 3) pe_int) (fun _ _ => rfl)) (pa_cons (pe_df DW hr (by decide) (by rfl) (pa_cons (pv 0) (pa_cons (pv 1) (pa_cons pe_int (pa_cons pe_int pa_nil))))) pa_nil))))) pss_nil)
    (pss_cons (ps_if (pt_cmpR op_eq (pv 3) pe_int (nomark _)) (pss_one (ps_ret (pe_df DL hr (by decide) (by rfl) (pa_cons (pv 0) (pa_cons (pv 1) pa_nil))))) pss_nil)
    (pss_cons (ps_if (PW.pt (pw_and (pt_cmpR op_gt (pv 2) pe_int (nomark _)) (pw_and1 (pt_cmpR op_eq (pe_df DC hr (by decide) (by rfl) (pa_cons (pv 0) (pa_cons pe_int pa_nil))) pe_int (nomark _)))))
      (pss_one (ps_ret (pe_tup (pa_cons pe_str (pa_cons (pe_df DC hr (by decide) (by rfl) (pa_cons (pv 0) (pa_cons (pe_op op_add (pe_callB (call_min2 rfl) (by rfl) G.min bi_min (pa_cons (pv 2) (pa_cons pe_int pa_nil))) pe_int) pa_nil))) pa_nil))))) pss_nil)
    (pss_one (ps_ret (pe_tup (pa_cons pe_str (pa_cons (pe_df DC hr (by decide) (by rfl) (pa_cons (pv 0) (pa_cons pe_int pa_nil))) pa_nil)))))))))  , ?_⟩
  obtain ⟨p, l, dr, rfl, hl, hz, hdr, hp, q⟩ := h
  refine cup_run (p := p) (m := 8) (ev_var rfl) ev_c (by decide) (by decide) hp fun d H1 d1 d2 mv hp1 => ?_
  obtain ⟨way, rfl⟩ := Int.eq_ofNat_of_zero_le d1
  have nm0 : ∀ n c, c ∈ namedM (.first n) → c ∈ l := fun _ _ h => nomatch h
  have nm1 : ∀ n c, c ∈ namedM (.last n) → c ∈ l := fun _ _ h => nomatch h
  refine q_when (b := decide ((way : Int) < 4)) (et_test (ev_op (ev_var rfl) ev_c rv_I0)) (fun hb H2 e2 => ?_) fun hb H2 e2 => ?_
  · intro n n0 hn0
    refine ⟨_, rfl, _, rfl, fun n1 hn1 => ⟨p, l, 1, 3, rfl, hl, hz, by decide, by decide, hp1.ex e2, fun x H3 t n2 hx x1 x3 mv3 hp3 ht htn => ?_⟩⟩
    refine ⟨_, rfl, _, rfl, fun n3 hn3 => ⟨p, l, 0, 3, rfl, hl, hz, by decide, by decide, hp3, fun y H4 t' n4 hy y1 y3 mv4 hp4 ht' htn' => ?_⟩⟩
    have k1 : t < t' := Nat.lt_of_lt_of_le htn (Nat.le_trans hn3 ht')
    have k0 : 0 < t := Nat.lt_of_lt_of_le (Nat.lt_of_le_of_lt (Nat.zero_le _) hn0) (Nat.le_trans hn1 ht)
    refine ⟨x, y, t, t', rfl, rfl, rfl, rfl, Nat.ne_of_gt k0, Nat.ne_of_gt (Nat.lt_trans k0 k1), fun z => absurd (z ▸ k1) (Nat.lt_irrefl _), fun T ob hT tk => ?_⟩
    have hx0 : x ≠ [] := fun z => by rw [z] at x1; exact absurd x1 (by decide)
    refine q _ (.rep x y) _ ⟨⟨T, rfl, .inr ⟨ob, upd_same⟩⟩, tk, ⟨hx0, x3, y3⟩, fun c hc => (List.mem_append.mp hc).elim (hx c) (hy c), ?_⟩ (nl_frz upd_same (by simp)) ((((mv.trans (Mv.ex e2)).trans mv3).trans mv4).mut' hp4 hT) (hp4.upd (pump_ne hp4 hT))
    show ((List.range x.length).map _).length ≤ _
    rw [List.length_map, List.length_range]
    split <;> omega
  have hw4 : 4 ≤ way := by have := of_decide_eq_false hb; omega
  have hp2 := hp1.ex e2
  have mv02 := mv.trans (Mv.ex e2)
  refine q_when (b := decide ((way : Int) < 6)) (et_test (ev_op (ev_var rfl) ev_c rv_I0)) (fun hb H3 e3 => ?_) fun hb H3 e3 => ?_
  · have hw6 : way < 6 := by have := of_decide_eq_true hb; omega
    obtain ⟨j, hj, rfl⟩ : ∃ j, j < 2 ∧ way = j + 4 := ⟨way - 4, by omega, by omega⟩
    have hE : Ev (tOp (rIxL K) (tLst (tCons (tC (.str "front")) (tCons (tC (.str "back")) tNil))) (tOp (rI0 fun i j => .int (i - j)) (tVar 3) (tC (.int 4)))) [some (.ref p), some (st l), some (.int dr), some (.int ((j + 4 : Nat) : Int))] H3 (if j = 0 then .str "front" else .str "back") :=
      ev_ixNew (i := j) (el_lst (ea_cons ev_c (ea_cons ev_c ea_nil)) len2) (fun H1 _ => ev_is (ev_op (ev_var rfl) ev_c rv_I0) (by congr 1; omega)) (by
        match j, hj with
        | 0, _ => rfl
        | 1, _ => rfl)
    refine hE H3 (Ex.refl H3) _ fun H4 e4 => ?_
    have hp4 := (hp2.ex e3).ex e4
    refine word_run (p := p) (l := l) (a := 0) (b := 3) (ev_var rfl) (ev_var rfl) ev_c ev_c hl hz (by decide) (by decide) hp4 fun x H5 hx x1 x3 mv5 hp5 => ⟨sz_of (n := 2) (Nat.le_of_ble_eq_true rfl), fun T hT => ?_⟩
    have mvT := ((((mv02.trans (Mv.ex e3)).trans (Mv.ex e4)).trans mv5).mut' (o := .tup [if j = 0 then .str "front" else .str "back", st x]) hp5 hT)
    have hpT := hp5.upd (o := .tup [if j = 0 then .str "front" else .str "back", st x]) (pump_ne hp5 hT)
    match j, hj with
    | 0, _ => exact q _ (.front x) _ ⟨⟨T, rfl, .inl upd_same⟩, trivial, x3, hx, by show 1 ≤ _; split <;> omega⟩ (nl_tup upd_same (by simp)) mvT hpT
    | 1, _ => exact q _ (.back x) _ ⟨⟨T, rfl, .inl upd_same⟩, trivial, x3, hx, by show 1 ≤ _; split <;> omega⟩ (nl_tup upd_same (by simp)) mvT hpT
  have hp3 := hp2.ex e3
  have mv03 := mv02.trans (Mv.ex e3)
  refine q_when (b := decide ((.int (way : Int) : V) = .int 6)) (et_test (ev_op (ev_var rfl) ev_c (rv_eq rfl))) (fun hb H4 e4 => ?_) fun hb H4 e4 => ?_
  · refine ⟨_, rfl, _, rfl, p, l, rfl, hl, hz, hp3.ex e4, fun v ps H5 ho hok hin nl mv5 hp5 => ?_⟩
    exact q v (.letters ps) H5 ⟨ho, trivial, hok, hin, by show 1 ≤ _; split <;> omega⟩ (fun a l' e h => none_mv (hp3.ex e4) (mv03.trans (Mv.ex e4)) (nl a l' e h)) ((mv03.trans (Mv.ex e4)).trans mv5) hp5
  have hp4 := hp3.ex e4
  have mv04 := mv03.trans (Mv.ex e4)
  have last : ∀ H5, Mv p H H5 → PumpOk p H5 → tRet (tTup (tCons (tC (.str "first")) (tCons (tCall spCup [] E0 (tCons (tVar 0) (tCons (tC (.int 3)) tNil))) tNil))) { nx := fun _ H' => Q .non H', rt := Q } [some (.ref p), some (st l), some (.int dr), some (.int (way : Int))] H5 := fun H5 mv5 hp5 => by
    refine cup_run (p := p) (m := 3) (ev_var rfl) ev_c (by decide) (by decide) hp5 fun d H6 d1 d2 mv6 hp6 => ⟨sz_of (n := 2) (Nat.le_of_ble_eq_true rfl), fun T hT => ?_⟩
    obtain ⟨n, rfl⟩ := Int.eq_ofNat_of_zero_le d1
    refine q _ (.first n) _ ⟨⟨T, rfl, .inl upd_same⟩, trivial, show n ≤ 2 by omega, nm0 n, ?_⟩ (nl_tup upd_same (by simp)) ((mv5.trans mv6).mut' hp6 hT) (hp6.upd (pump_ne hp6 hT))
    show ((List.range (n + 1)).map _).length ≤ _
    rw [List.length_map, List.length_range]
    split <;> omega
  refine (et_test (b := decide ((0 : Int) < (dr : Int))) (ev_op (ev_var rfl) ev_c rv_I0)) H4 (Ex.refl H4) _ fun H5 e5 => ?_
  have hp5 := hp4.ex e5
  have mv05 := mv04.trans (Mv.ex e5)
  rcases Nat.eq_zero_or_pos dr with h0 | h0
  · rw [if_neg (by simp [h0])]
    exact last H5 mv05 hp5
  · rw [if_pos (by simp [h0])]
    refine cup_run (p := p) (m := 2) (ev_var rfl) ev_c (by decide) (by decide) hp5 fun d H6 d1 d2 mv6 hp6 => ?_
    refine (ev_c (v := V.int 0)) H6 (Ex.refl H6) _ fun H7 e7 => ⟨rfl, decide (V.int d = .int 0), rfl, ?_⟩
    have hp7 := hp6.ex e7
    have mv07 := (mv05.trans mv6).trans (Mv.ex e7)
    show (if decide (V.int d = V.int 0) = true then _ else _ : Prop)
    by_cases hd : d = 0
    · rw [if_pos (by simp [hd])]
      have hmin : Ev (tCB (fun xs H Q => ∃ i j, xs = [V.int i, .int j] ∧ Q (.int (if j < i then j else i)) H) (tCons (tVar 2) (tCons (tC (.int 2)) tNil))) [some (.ref p), some (st l), some (.int dr), some (.int (way : Int))] H7 (.int 1) :=
        ev_is (v := .int (if (2 : Int) < (dr : Int) then 2 else (dr : Int))) (ev_cb (ea_cons (ev_var rfl) (ea_cons ev_c ea_nil)) fun H1 e Q q => ⟨_, _, rfl, q H1 (Ex.refl H1)⟩) (by rw [if_neg (by omega)]; congr 1; omega)
      refine cup_run (p := p) (m := 2) (ev_var rfl) (ev_is (ev_op hmin ev_c rv_I0) rfl) (by decide) (by decide) hp7 fun d' H8 d1' d2' mv8 hp8 => ⟨sz_of (n := 2) (Nat.le_of_ble_eq_true rfl), fun T hT => ?_⟩
      obtain ⟨n, rfl⟩ := Int.eq_ofNat_of_zero_le d1'
      refine q _ (.last n) _ ⟨⟨T, rfl, .inl upd_same⟩, trivial, show n ≤ 1 by omega, nm1 n, ?_⟩ (nl_tup upd_same (by simp)) ((mv07.trans mv8).mut' hp8 hT) (hp8.upd (pump_ne hp8 hT))
      have e28 : (if dr = 0 then 3 else 28) = 28 := if_neg (by omega)
      rw [e28]
      show (if n = 0 then [Ms.txt []] else .txt [] :: SG.map fun c => .txt [c]).length ≤ 28
      split
      · decide
      · simp [SG]
    · rw [if_neg (by simpa using hd)]
      exact last H7 mv07 hp7
end
end Ev
set_option Elab.async false
set_option linter.all false
set_option maxRecDepth 100000
set_option maxHeartbeats 4000000
namespace Ev
open PySem PySem.Spec PyProof.Rows L2 Evl StX LamX NdefX
def nameO : Od → Str
  | .rep _ _ => "replace"
  | .front _ => "front"
  | .back _ => "back"
  | .first _ => "first"
  | .last _ => "last"
  | .letters _ => "letters"
theorem OdV.head {H : Hp} {v : V} {o : Od} (h : OdV H v o) : ∃ a xs, v = .ref a ∧ Rd H a (.tup xs) ∧ xs[0]? = some (.str (nameO o)) ∧ ∀ n, o = .last n → xs[1]? = some (.int (n : Int)) := by
  cases o with
  | letters ps => obtain ⟨a, l, vs, h1, h2, h3, h4⟩ := h; exact ⟨a, _, h1, h2, rfl, fun _ z => nomatch z⟩
  | last n => obtain ⟨a, h1, h2⟩ := h; exact ⟨a, _, h1, h2, rfl, fun _ z => by cases z; rfl⟩
  | _ => obtain ⟨a, h1, h2⟩ := h; exact ⟨a, _, h1, h2, rfl, (fun _ z => nomatch z)⟩
theorem rd_one {H : Hp} {a : Addr} {xs ys : List V} (h : Rd H a (.tup xs)) (k : Rd H a (.tup ys)) : xs = ys := by
  rcases h with h | ⟨_, h⟩ <;> rcases k with k | ⟨_, k⟩ <;> rw [h] at k <;> cases k <;> rfl
/-- a list of orders that H0 does not know, nor the lists within its letters orders -/
def OdsN (H0 H : Hp) (v : V) (os : List Od) : Prop := ∃ a vs, v = .ref a ∧ H0 a = none ∧ H a = some (.lst vs) ∧ Paired (fun v o => (OdV H v o ∧ TokV H v o) ∧ NL H0 H v) vs os
section
variable {P : Program} {w : World} {K : PySem.W.Frag} {mg : Str → Option Value} {base : Heap}
/-! ### _law_orders -/
theorem sc_orders : FnScope ["_law_pump_here", "_law_letters_here", "_law_most", "_law_drops", "_law_found", "_law_left", "_law_turn", "_law_order_here"] ["_law_pump_here", "_law_letters_here", "_law_most", "_law_drops"] (defScope (top 43)) := ⟨rfl, rfl, rfl, by decide +kernel, rfl, by decide +kernel, by decide +kernel⟩
def spOrdersL : Sp := fun vs H Q _ => ∃ (p : Addr) (l : Tx) (dr : Nat), vs = [.ref p, st l, .int 1, .int dr] ∧ l ≠ [] ∧ l.length ≤ 1000 ∧ AllSg l ∧ dr ≤ 1 ∧ PumpOk p H ∧ ∀ (v : V) (os : List Od) H', OdsN H H' v os → DR l 1 (if dr = 0 then 3 else 28) os → Mv p H H' → PumpOk p H' → Q v H'
theorem ok_ordersL (F : At K mg 43 "_law_orders") (G : Gb mg) (DC : Df P w K mg base 1 "_law_cup" ["_law_pump_here", "_law_many"] spCup) (DO : Df P w K mg base 4 "_law_order" ["_law_pump_here", "_law_letters_here", "_law_drops"] spOrderL) : Df P w K mg base 5 "_law_orders" ["_law_pump_here", "_law_letters_here", "_law_most", "_law_drops"] spOrdersL := by
  refine Df.made (N := ["_law_pump_here", "_law_letters_here", "_law_most", "_law_drops", "_law_found", "_law_left", "_law_turn", "_law_order_here"]) F sc_orders (fun _ _ _ _ _ _ us hl => match us, hl with | [_, _, _, _], _ => rfl) (fun vs H Q E h => ?_) (fun f cdv A outer s H vs Q E hr h => ?_)
  · obtain ⟨p, m, dr, rfl, _⟩ := h; rfl
  refine ⟨_, pss_cons (ps_par (i := 4) (j := 5) rfl sc_orders.nd rfl rfl (by decide) rfl rfl (pa_cons (pe_lst pa_nil) (pa_cons (pv 3) pa_nil)) rfl)
    (pss_cons (ps_for PassesOwn.never rfl (pi_range1 (by rfl) G.rng (pa_cons (pe_df DC hr (by decide) (by rfl) (pa_cons (pv 0) (pa_cons (pe_op op_add (pv 2) pe_int) pa_nil))) pa_nil)) (pg_name (i := 6) sc_orders.nd rfl (.inl rfl))
      (pss_cons (ps_set (i := 7) sc_orders.nd rfl (.inl rfl) (pe_df DO hr (by decide) (by rfl) (pa_cons (pv 0) (pa_cons (pv 1) (pa_cons (pv 5) pa_nil)))))
      (pss_cons (ps_if (pt_cmpR op_eq (pe_ix ix_tup (pv 7) pe_int (fun _ _ => rfl)) pe_str (nomark _)) (pss_one (ps_set (i := 5) sc_orders.nd rfl (.inl rfl) (pe_op op_sub (pv 5) (pe_ix ix_tup (pv 7) pe_int (fun _ _ => rfl))))) pss_nil)
      (pss_one (ps_expr (pe_bm PySem.F.plainAttrs_list PySem.F.slot_list_append PySem.F.type_list_append mt_append (pv 4) (pa_cons (pv 7) pa_nil)))))))
    (pss_one (ps_ret (pv 4)))), ?_⟩
  obtain ⟨p, l, dr, rfl, hl, hz, hsg, hdr, hp, q⟩ := h
  refine ⟨sz_of (n := 0) (Nat.zero_le _), fun R hR => ⟨_, rfl, _, _, rfl, ?_⟩⟩
  have hRp := pump_ne hp hR
  have e1 : Ex H (upd H R (.lst [])) := Ex.new hR
  have hp1 := hp.ex e1
  refine cup_run (p := p) (m := 2) (ev_var rfl) (ev_is (ev_op (ev_var rfl) ev_c rv_I0) rfl) (by decide) (by decide) hp1 fun d H1 d1 d2 mv hp2 => ?_
  obtain ⟨k, rfl⟩ := Int.eq_ofNat_of_zero_le d1
  have hb1 : 1 ≤ (if dr = 0 then 3 else 28) := by split <;> decide
  refine ⟨(k : Int), rfl, by omega, by omega, for_range (lo := 0) (n := (k : Int).toNat) (fun i σ H' => ∃ (left : Int) (y6 y7 : Option V) (vs : List V) (os : List Od), σ = [some (.ref p), some (st l), some (.int 1), some (.int dr), some (.ref R), some (.int left), y6, y7] ∧ Mv p H H' ∧ PumpOk p H' ∧
    H' R = some (.lst vs) ∧ Paired (fun v o => (OdV H' v o ∧ TokV H' v o) ∧ NL H H' v) vs os ∧ DR l 1 (if dr = 0 then 3 else 28) os ∧ (i = 0 → os = [] ∧ left = dr))
    ⟨_, none, none, [], [], rfl, ((Mv.ex e1).trans mv), hp2, mv _ _ upd_same hRp, .nil, DR.nil.mono (Nat.zero_le _) hb1, fun _ => ⟨rfl, rfl⟩⟩ (fun i σ' H' hi ⟨left, y6, y7, vs, os, hσ, mv', hp', hR', hps, D, h0⟩ => ?_) (fun σ' H' ⟨left, y6, y7, vs, os, hσ, mv', hp', hR', hps, D, h0⟩ => ?_)⟩
  · subst hσ
    obtain ⟨rfl, rfl⟩ := h0 (by omega)
    cases hps
    refine ⟨_, rfl, _, rfl, _, rfl, p, l, dr, rfl, hl, hz, hdr, hp', fun v o H2 og nlv mv2 hp3 => ?_⟩
    have hR2 := mv2 _ _ hR' hRp
    have fin : ∀ (left' : Int) H3, Ex H2 H3 → tDrop (tBM K "list" rAppend (tVar 4) (tCons (tVar 7) tNil)) { nx := (fun σ H' => ∃ (left : Int) (y6 y7 : Option V) (vs : List V) (os : List Od), σ = [some (.ref p), some (st l), some (.int 1), some (.int dr), some (.ref R), some (.int left), y6, y7] ∧ Mv p H H' ∧ PumpOk p H' ∧
        H' R = some (.lst vs) ∧ Paired (fun v o => (OdV H' v o ∧ TokV H' v o) ∧ NL H H' v) vs os ∧ DR l 1 (if dr = 0 then 3 else 28) os ∧ (i + 1 = 0 → os = [] ∧ left = dr)), rt := Q, bk := tRet (tVar 4) { nx := fun _ H' => Q .non H', rt := Q }, ct := (fun σ H' => ∃ (left : Int) (y6 y7 : Option V) (vs : List V) (os : List Od), σ = [some (.ref p), some (st l), some (.int 1), some (.int dr), some (.ref R), some (.int left), y6, y7] ∧ Mv p H H' ∧ PumpOk p H' ∧
        H' R = some (.lst vs) ∧ Paired (fun v o => (OdV H' v o ∧ TokV H' v o) ∧ NL H H' v) vs os ∧ DR l 1 (if dr = 0 then 3 else 28) os ∧ (i + 1 = 0 → os = [] ∧ left = dr)) } [some (.ref p), some (st l), some (.int 1), some (.int dr), some (.ref R), some (.int left'), some (.int ((0 : Int) + (i : Int))), some v] H3 := fun left' H3 e3 => by
      refine s_app (l := R) (e3 _ _ hR2) (ev_var rfl) (ev_var rfl) (by simp) fun H4 e4 => ⟨left', _, _, [] ++ [v], [o], rfl, ?_, ?_, upd_same, .cons ?_ .nil, ?_, fun z => by omega⟩
      · intro a u ha hap
        rw [upd_ne (fun z => by rw [z, hR] at ha; cases ha)]
        exact e4 _ _ (e3 _ _ (mv2 _ _ (mv' _ _ ha hap) hap))
      · exact ((hp3.ex e3).ex e4).upd hRp
      · have e34 := e3.trans e4
        have g := og.mono e34
        -- the new list is no order
        have nl : ∀ {a : Addr} {u : HO}, Rd H4 a u → (a = R → False) → Rd (upd H4 R (.lst ([] ++ [v]))) a u := fun h hn => h.elim (fun h => .inl (by rw [upd_ne hn]; exact h)) fun ⟨o, h⟩ => .inr ⟨o, by rw [upd_ne hn]; exact h⟩
        have hR4 := e34 _ _ hR2
        have neT : ∀ {a : Addr} {xs : List V}, Rd H4 a (.tup xs) → a = R → False := fun h z => by
          subst z
          rcases h with h | ⟨o, h⟩ <;> rw [hR4] at h <;> cases h
        have neF : ∀ {a : Addr} {ob : Obj} {u : HO}, H4 a = some (.frz ob u) → a ≠ R := fun h z => by
          subst z
          rw [hR4] at h
          cases h
        refine ⟨⟨?_, ?_⟩, fun a0 l0 ev0 g0 => ?_⟩
        rotate_left 2
        · obtain ⟨a1, xs1, ea1, ha1, _⟩ := og.od.head
          rw [ev0] at ea1
          cases ea1
          have ha4 := ex_rd e34 ha1
          have := rd_one (nl ha4 (neT ha4)) g0
          subst this
          exact none_mv hp' mv' (nlv a0 l0 ev0 ha1)
        · have hod := g.od
          cases o with
          | letters ps =>
            obtain ⟨a, lL, ws, h1, h2, h3, h4⟩ := hod
            have hlR : lL = R → False := fun z => by
              obtain ⟨a', l', _, g1, g2, _⟩ := og.od
              rw [h1] at g1
              cases g1
              have e2 := ex_rd e34 g2
              have : l' = lL := by
                rcases e2 with e2 | ⟨o2, e2⟩ <;> rcases h2 with h2 | ⟨o3, h2⟩ <;> rw [e2] at h2
                · cases h2; rfl
                · cases h2
                · cases h2
                · cases h2; rfl
              have := nlv a l' h1 g2
              rw [‹l' = lL›, z, hR'] at this
              cases this
            exact ⟨a, lL, ws, h1, nl h2 (neT h2), nl h3 hlR, L2.Paired.mapP h4 fun x y z => let ⟨b, g1, g2⟩ := z; ⟨b, g1, nl g2 (neT g2)⟩⟩
          | _ => exact let ⟨a, h1, h2⟩ := hod; ⟨a, h1, nl h2 (neT h2)⟩
        · have htk := g.tk
          cases o with
          | rep x y =>
            obtain ⟨a, ob, kk, t0, t1, t2, h1, h2, h3⟩ := htk
            exact ⟨a, ob, kk, t0, t1, t2, h1, by rw [upd_ne (neF h2)]; exact h2, h3⟩
          | _ => trivial
      · exact ⟨fun x hx => by rw [List.mem_singleton.mp hx]; exact og.ok, fun c hc => hsg c (og.nm c (by simpa [namedsM] using hc)), Nat.le_refl _, by show (stOf o).length * 1 ≤ _; rw [Nat.mul_one]; exact og.sz, fun c hc => og.nm c (by simpa [namedsM] using hc)⟩
    obtain ⟨a, xs, rfl, ha, hx0, hx1⟩ := og.od.head
    refine q_when (b := decide ((.str (nameO o) : V) = .str "last")) (et_test (ev_op (ev_ixT (i := 0) (ev_var rfl) ev_c ha hx0) ev_c (rv_eq rfl))) (fun hb H3 e3 => ?_) fun hb H3 e3 => fin _ H3 e3
    have hn : ∃ n, o = .last n := by
      have hname : nameO o = "last" := V.str.inj (of_decide_eq_true hb)
      cases o with
      | last n => exact ⟨n, rfl⟩
      | _ => all_goals (simp only [nameO] at hname; exact absurd hname (by decide +kernel))
    obtain ⟨n, rfl⟩ := hn
    exact s_asg (v := .int ((dr : Int) - n)) (ev_op (ev_var rfl) (ev_ixT (i := 1) (ev_var rfl) ev_c (ex_rd e3 ha) (hx1 n rfl)) rv_I0) fun H4 e4 => fin _ H4 (e3.trans e4)
  · subst hσ
    exact s_ret (ev_var rfl) fun H3 e3 => q (.ref R) os H3 ⟨R, vs, rfl, hR, e3 _ _ hR', L2.Paired.mapP hps fun x y z => ⟨⟨z.1.1.mono e3, z.1.2.mono e3⟩, fun a0 l0 ev0 g0 => by
      obtain ⟨a1, xs1, ea1, ha1, _⟩ := z.1.1.head
      rw [ev0] at ea1
      cases ea1
      have := rd_one (ex_rd e3 ha1) g0
      subst this
      exact z.2 a0 l0 ev0 ha1⟩⟩ D (mv'.trans (Mv.ex e3)) (hp'.ex e3)
end
end Ev
set_option Elab.async false
set_option linter.all false
set_option maxRecDepth 100000
set_option maxHeartbeats 4000000
namespace Ev
open PySem PySem.Spec PyProof.Rows L2 Evl StX LamX NdefX
/-! ### a reading whose value is told by a relation -/
def EvP (te : TE) (σ : L2.St) (H : Hp) (R : Hp → V → Prop) : Prop := ∀ H1, Ex H H1 → ∀ Q : VK, (∀ v H2, Ex H1 H2 → R H2 v → Q v H2) → te σ H1 Q
def EvPL {α : Type} (ta : TA) (σ : L2.St) (H : Hp) (R : Hp → V → α → Prop) (xs : List α) : Prop := ∀ H1, Ex H H1 → ∀ Q : List V → Hp → Prop, (∀ vs H2, Ex H1 H2 → Paired (R H2) vs xs → Q vs H2) → ta σ H1 Q
def LsR {α : Type} (R : Hp → V → α → Prop) (xs : List α) (H : Hp) (v : V) : Prop := ∃ a vs, v = .ref a ∧ H a = some (.lst vs) ∧ Paired (R H) vs xs
def Mo {α : Type} (R : Hp → V → α → Prop) : Prop := ∀ v x H H', Ex H H' → R H v x → R H' v x
section
variable {σ : L2.St} {H : Hp} {ta tb te : TE} {tr : TA}
theorem EvP.imp {R R' : Hp → V → Prop} (h : EvP te σ H R) (f : ∀ H v, R H v → R' H v) : EvP te σ H R' := fun H1 e Q q => h H1 e Q fun v H2 e2 r => q v H2 e2 (f _ _ r)
theorem epl_nil {α : Type} {R : Hp → V → α → Prop} : EvPL tNil σ H R [] := fun H1 e Q q => q [] H1 (Ex.refl H1) .nil
theorem epl_cons {α : Type} {R : Hp → V → α → Prop} {x : α} {xs : List α} (m : Mo R) (h : EvP te σ H fun H v => R H v x) (t : EvPL tr σ H R xs) : EvPL (tCons te tr) σ H R (x :: xs) := fun H1 e Q q =>
  h H1 e _ fun v H2 e2 r => t H2 (e.trans e2) _ fun vs H3 e3 rs => q _ H3 (e2.trans e3) (.cons (m _ _ _ _ e3 r) rs)
theorem ep_lst {α : Type} {R : Hp → V → α → Prop} {xs : List α} (m : Mo R) (h : EvPL tr σ H R xs) (hl : xs.length ≤ 100000) : EvP (tLst tr) σ H (LsR R xs) := fun H1 e Q q =>
  h H1 e _ fun vs H2 e2 r => ⟨sz_of (by rw [paired_len r]; exact hl), fun p hp => q _ _ (e2.trans (Ex.new hp)) ⟨p, vs, rfl, upd_same, L2.Paired.mapP r fun v x z => m v x _ _ (Ex.new hp) z⟩⟩
theorem LsR.mono {α : Type} {R : Hp → V → α → Prop} (m : Mo R) : Mo fun H v (xs : List α) => LsR R xs H v := fun v xs H H' e h => let ⟨a, vs, h1, h2, h3⟩ := h; ⟨a, vs, h1, e _ _ h2, L2.Paired.mapP h3 fun x y z => m _ _ _ _ e z⟩
theorem ep_var {R : Hp → V → Prop} {i : Nat} {v : V} (h : σ[i]? = some (some v)) (hr : ∀ H1, Ex H H1 → R H1 v) : EvP (tVar i) σ H R := fun H1 e Q q => ⟨v, h, q v H1 (Ex.refl H1) (hr H1 e)⟩
/-- a pair, a triple -/
theorem ep_tup2 {R : Hp → V → Prop} {x y : V} (h1 : Ev ta σ H x) (h2 : Ev tb σ H y) (hR : ∀ a H, H a = some (.tup [x, y]) → R H (.ref a)) : EvP (tTup (tCons ta (tCons tb tNil))) σ H R := fun H1 e Q q =>
  (eu_tup (ea_cons h1 (ea_cons h2 ea_nil)) len2) H1 e _ fun p H2 _ e2 hp => q _ H2 e2 (hR p H2 hp)
theorem ep_tup3 {R : Hp → V → Prop} {tc : TE} {x y z : V} (h1 : Ev ta σ H x) (h2 : Ev tb σ H y) (h3 : Ev tc σ H z) (hR : ∀ a H, H a = some (.tup [x, y, z]) → R H (.ref a)) : EvP (tTup (tCons ta (tCons tb (tCons tc tNil)))) σ H R := fun H1 e Q q =>
  (eu_tup (ea_cons h1 (ea_cons h2 (ea_cons h3 ea_nil))) (Nat.le_of_ble_eq_true rfl)) H1 e _ fun p H2 _ e2 hp => q _ H2 e2 (hR p H2 hp)
/-- a pair whose second is told by a relation -/
theorem ep_tupR {R R2 : Hp → V → Prop} {x : V} (h1 : Ev ta σ H x) (h2 : EvP tb σ H R2) (m : ∀ H H' v, Ex H H' → R2 H v → R2 H' v) (hR : ∀ a y H, H a = some (.tup [x, y]) → R2 H y → R H (.ref a)) : EvP (tTup (tCons ta (tCons tb tNil))) σ H R := fun H1 e Q q =>
  h1 H1 e _ fun H2 e2 => h2 H2 (e.trans e2) _ fun y H3 e3 r => ⟨sz_of (n := 2) (Nat.le_of_ble_eq_true rfl), fun p hp => q _ _ ((e2.trans e3).trans (Ex.new hp)) (hR p y _ upd_same (m _ _ _ (Ex.new hp) r))⟩
theorem ep_tupRR {R R1 R2 : Hp → V → Prop} (h1 : EvP ta σ H R1) (h2 : EvP tb σ H R2) (m1 : ∀ H H' v, Ex H H' → R1 H v → R1 H' v) (m : ∀ H H' v, Ex H H' → R2 H v → R2 H' v) (hR : ∀ a x y H, H a = some (.tup [x, y]) → R1 H x → R2 H y → R H (.ref a)) : EvP (tTup (tCons ta (tCons tb tNil))) σ H R := fun H1 e Q q =>
  h1 H1 e _ fun x H2 e2 r1 => h2 H2 (e.trans e2) _ fun y H3 e3 r => ⟨sz_of (n := 2) (Nat.le_of_ble_eq_true rfl), fun p hp => q _ _ ((e2.trans e3).trans (Ex.new hp)) (hR p x y _ upd_same (m1 _ _ _ (e3.trans (Ex.new hp)) r1) (m _ _ _ (Ex.new hp) r))⟩
theorem mo_od : Mo OdV := fun _ _ _ _ e h => h.mono e
theorem mo_pair : Mo PairV := fun _ _ _ _ e h => h.mono e
theorem ep_front {x : Tx} (h1 : Ev ta σ H (.str "front")) (h2 : Ev tb σ H (st x)) : EvP (tTup (tCons ta (tCons tb tNil))) σ H fun H v => OdV H v (.front x) := ep_tup2 h1 h2 fun a H h => ⟨a, rfl, .inl h⟩
theorem ep_back {x : Tx} (h1 : Ev ta σ H (.str "back")) (h2 : Ev tb σ H (st x)) : EvP (tTup (tCons ta (tCons tb tNil))) σ H fun H v => OdV H v (.back x) := ep_tup2 h1 h2 fun a H h => ⟨a, rfl, .inl h⟩
theorem ep_first {n : Nat} (h1 : Ev ta σ H (.str "first")) (h2 : Ev tb σ H (.int n)) : EvP (tTup (tCons ta (tCons tb tNil))) σ H fun H v => OdV H v (.first n) := ep_tup2 h1 h2 fun a H h => ⟨a, rfl, .inl h⟩
theorem ep_last {n : Nat} (h1 : Ev ta σ H (.str "last")) (h2 : Ev tb σ H (.int n)) : EvP (tTup (tCons ta (tCons tb tNil))) σ H fun H v => OdV H v (.last n) := ep_tup2 h1 h2 fun a H h => ⟨a, rfl, .inl h⟩
theorem ep_rep {tc : TE} {x y : Tx} (h1 : Ev ta σ H (.str "replace")) (h2 : Ev tb σ H (st x)) (h3 : Ev tc σ H (st y)) : EvP (tTup (tCons ta (tCons tb (tCons tc tNil)))) σ H fun H v => OdV H v (.rep x y) := ep_tup3 h1 h2 h3 fun a H h => ⟨a, rfl, .inl h⟩
theorem ep_pair {c d : Nat} (h1 : Ev ta σ H (st [c])) (h2 : Ev tb σ H (st [d])) : EvP (tTup (tCons ta (tCons tb tNil))) σ H fun H v => PairV H v (c, d) := ep_tup2 h1 h2 fun a H h => ⟨a, rfl, .inl h⟩
theorem ep_letters {ps : List (Nat × Nat)} (h1 : Ev ta σ H (.str "letters")) (h2 : EvP tb σ H (LsR PairV ps)) : EvP (tTup (tCons ta (tCons tb tNil))) σ H fun H v => OdV H v (.letters ps) :=
  ep_tupR h1 h2 (fun H H' v e h => LsR.mono mo_pair v ps H H' e h) fun a y H h ⟨l, vs, e, g1, g2⟩ => ⟨a, l, vs, rfl, .inl (e ▸ h), .inl g1, g2⟩
theorem ep_ods {os : List Od} (h : EvPL tr σ H OdV os) (hl : os.length ≤ 100000) : EvR (tLst tr) σ H os := ep_lst mo_od h hl
end
theorem paired_take {α β : Type} {R : α → β → Prop} : ∀ {xs : List α} {ys : List β}, Paired R xs ys → ∀ k, Paired R (xs.take k) (ys.take k)
  | _, _, .nil, k => by simp; exact .nil
  | _, _, .cons r t, 0 => .nil
  | _, _, .cons r t, k + 1 => .cons r (paired_take t k)
theorem paired_drop {α β : Type} {R : α → β → Prop} : ∀ {xs : List α} {ys : List β}, Paired R xs ys → ∀ k, Paired R (xs.drop k) (ys.drop k)
  | _, _, .nil, k => by simp; exact .nil
  | _, _, .cons r t, 0 => .cons r t
  | _, _, .cons r t, k + 1 => paired_drop t k
theorem cutV_from {xs : List V} {n : Nat} : cutV xs (some (n : Int)) none = xs.drop n := by
  unfold cutV
  have h1 : HT.sIx xs.length xs.length none = xs.length := rfl
  have h2 : HT.sIx xs.length 0 (some (n : Int)) = min n xs.length := by
    simp [HT.sIx]
    try omega
  rw [h1, h2]
  rcases Nat.le_total n xs.length with h | h
  · rw [Nat.min_eq_left h, List.take_of_length_le (by rw [List.length_drop]; omega)]
  · rw [Nat.min_eq_right h, List.drop_eq_nil_of_le h, List.drop_eq_nil_of_le (Nat.le_refl _)]
    simp
section
variable {P : Program} {w : World} {K : PySem.W.Frag} {mg : Str → Option Value} {base : Heap}
section
variable {σ : L2.St} {H : Hp} {ta tb : TE}
theorem er_take {i j k : Nat} {v : V} {os : List Od} (h : σ[i]? = some (some v)) (hv : OdsL H v os) (hj : σ[j]? = some (some (.int (k : Int)))) : EvR (tSl (rSlL K) (tVar i) tNoPart (tPart (tVar j))) σ H (os.take k) := fun H1 e Q q => by
  obtain ⟨a, vs, rfl, ha, hp⟩ := hv.mono e
  refine el_is (el_sl (lo := none) (hi := some (k : Int)) (ev_var h) eo_none (eo_some (ev_var hj)) (sq_of ha)) cutV_to H1 (Ex.refl H1) _ fun p H2 _ e2 h2 => q _ H2 e2 ⟨p, _, rfl, h2, ?_⟩
  exact paired_take (L2.Paired.mapP hp fun x y z => OdV.mono e2 z) k
theorem er_drop {i j k : Nat} {v : V} {os : List Od} (h : σ[i]? = some (some v)) (hv : OdsL H v os) (hj : σ[j]? = some (some (.int (k : Int)))) : EvR (tSl (rSlL K) (tVar i) (tPart (tVar j)) tNoPart) σ H (os.drop k) := fun H1 e Q q => by
  obtain ⟨a, vs, rfl, ha, hp⟩ := hv.mono e
  refine el_is (el_sl (lo := some (k : Int)) (hi := none) (ev_var h) (eo_some (ev_var hj)) eo_none (sq_of ha)) cutV_from H1 (Ex.refl H1) _ fun p H2 _ e2 h2 => q _ H2 e2 ⟨p, _, rfl, h2, ?_⟩
  have hp' := L2.Paired.mapP hp fun x y z => OdV.mono e2 z
  exact paired_drop hp' k
end
end
end Ev
set_option Elab.async false
set_option linter.all false
set_option maxRecDepth 100000
set_option maxHeartbeats 400000
namespace Ev
open PySem PySem.Spec PyProof.Rows L2 Evl StX LamX NdefX
theorem alike_in {o : Od} (h : Idle1 o) (os : List Od) (k : Nat) : Alike os (os.take k ++ [o] ++ os.drop k) := fun w _ => by
  rw [idle_in h, List.take_append_drop]
theorem nn_idle {o : Od} (os : List Od) (k : Nat) : nn (os.take k ++ [o] ++ os.drop k) = nn os * (stOf o).length := by
  rw [nn_append, nn_append]
  have h : nn os = nn (os.take k) * nn (os.drop k) := by rw [← nn_append, List.take_append_drop]
  have h1 : nn [o] = (stOf o).length := by show (stOf o).length * 1 = _; rw [Nat.mul_one]
  rw [h, h1, Nat.mul_assoc, Nat.mul_comm (stOf o).length, Nat.mul_assoc]
theorem DR.idle {L : Tx} {o : Od} {os : List Od} (D : DR L 1 28 os) (ho : OkO o) (hn : ∀ c ∈ namedM o, c ∈ L) (hL : AllSg L) (hz : (stOf o).length ≤ 3) (k : Nat) : DR L 2 84 (os.take k ++ [o] ++ os.drop k) where
  ok := fun x hx => by
    rcases List.mem_append.mp hx with hx | hx
    · rcases List.mem_append.mp hx with hx | hx
      · exact D.ok x (List.mem_of_mem_take hx)
      · rw [List.mem_singleton.mp hx]; exact ho
    · exact D.ok x (List.mem_of_mem_drop hx)
  sg := fun c hc => by
    rw [nameds_append, nameds_append] at hc
    rcases List.mem_append.mp hc with hc | hc
    · rcases List.mem_append.mp hc with hc | hc
      · obtain ⟨x, hx, hc⟩ := List.mem_flatMap.mp hc
        exact D.sg c (List.mem_flatMap.mpr ⟨x, List.mem_of_mem_take hx, hc⟩)
      · exact hL c (hn c (by simpa [namedsM] using hc))
    · obtain ⟨x, hx, hc⟩ := List.mem_flatMap.mp hc
      exact D.sg c (List.mem_flatMap.mpr ⟨x, List.mem_of_mem_drop hx, hc⟩)
  len := by
    have := D.len
    simp only [List.length_append, List.length_take, List.length_drop, List.length_cons, List.length_nil]
    omega
  nn := by
    rw [nn_idle]
    exact Nat.le_trans (Nat.mul_le_mul D.nn hz) (by decide)
  nm := fun c hc => by
    rw [nameds_append, nameds_append] at hc
    rcases List.mem_append.mp hc with hc | hc
    · rcases List.mem_append.mp hc with hc | hc
      · obtain ⟨x, hx, hc⟩ := List.mem_flatMap.mp hc
        exact D.nm c (List.mem_flatMap.mpr ⟨x, List.mem_of_mem_take hx, hc⟩)
      · exact hn c (by simpa [namedsM] using hc)
    · obtain ⟨x, hx, hc⟩ := List.mem_flatMap.mp hc
      exact D.nm c (List.mem_flatMap.mpr ⟨x, List.mem_of_mem_drop hx, hc⟩)
section
variable {P : Program} {w : World} {K : PySem.W.Frag} {mg : Str → Option Value} {base : Heap}
section
variable {σ : L2.St} {H : Hp} {tl ta tb : TE} {D : Ends} {tz : TS} {E : XK} {p : Addr}
theorem q_ixcup {os : List Od} {m : Int} {i : Nat} (hl : EvR tl σ H os) (ha : ∀ {H1}, Ev ta σ H1 (.ref p)) (hb : ∀ {H1}, Ev tb σ H1 (.int m)) (hm : 0 < m) (hM : m ≤ 100000) (hp : PumpOk p H)
    (k : ∀ (y : V) (j : Int) H2 H3, Ex H H2 → OdsL H2 y os → 0 ≤ j → j < m → Mv p H2 H3 → PumpOk p H3 → rIxL K y (.int j) H3 fun v H4 => tz D (σ.set i (some v)) H4) : tSeq (tAsg (tOp (rIxL K) tl (tCall spCup [] E (tCons ta (tCons tb tNil)))) (gName i)) tz D σ H :=
  hl H (Ex.refl H) _ fun y H2 e2 hy => cup_run ha hb hm hM (hp.ex e2) fun j H3 j1 j2 mv3 hp3 => k y j H2 H3 e2 hy j1 j2 mv3 hp3
end
/-! ### _law_same -/
theorem sc_same : FnScope ["_law_pump_here", "_law_orders_it", "_law_word_it", "_law_cell", "_law_more"] ["_law_pump_here", "_law_orders_it", "_law_word_it"] (defScope (top 44)) := ⟨rfl, rfl, rfl, by decide +kernel, rfl, by decide +kernel, by decide +kernel⟩
def spSame : Sp := fun vs H Q _ => ∃ (p : Addr) (v : V) (os : List Od) (L : Tx) (c : Nat), vs = [.ref p, v, st [c]] ∧ OdsK H v os ∧ DR L 1 28 os ∧ AllSg L ∧ c ∈ L ∧ PumpOk p H ∧ ∀ (u : V) (ps : List Od) H', OdsL H' u ps → DR L 2 84 ps → Alike os ps → Mv p H H' → PumpOk p H' → Q u H'
theorem ok_same (F : At K mg 44 "_law_same") (G : Gb mg) (DC : Df P w K mg base 1 "_law_cup" ["_law_pump_here", "_law_many"] spCup) : Df P w K mg base 2 "_law_same" ["_law_pump_here", "_law_orders_it", "_law_word_it"] spSame := by
  refine Df.made (N := ["_law_pump_here", "_law_orders_it", "_law_word_it", "_law_cell", "_law_more"]) F sc_same (fun _ _ _ _ _ _ us hl => match us, hl with | [_, _, _], _ => rfl) (fun vs H Q E h => ?_) (fun f cdv A outer s H vs Q E hr h => ?_)
  · obtain ⟨p, v, os, L, c, rfl, _⟩ := h; rfl
  refine ⟨_, pss_cons (ps_set (i := 3) sc_same.nd rfl (.inl rfl) (pe_df DC hr (by decide) (by rfl) (pa_cons (pv 0) (pa_cons (pe_op op_add (pe_callB call_len_seq (by rfl) G.len bi_len (pa_cons (pv 1) pa_nil)) pe_int) pa_nil))))
    (pss_cons (ps_set (i := 4) sc_same.nd rfl (.inl rfl) (pe_ix ix_list (pe_lst (pa_cons (pe_tup (pa_cons pe_str (pa_cons pe_int pa_nil))) (pa_cons (pe_tup (pa_cons pe_str (pa_cons pe_str pa_nil))) (pa_cons (pe_tup (pa_cons pe_str (pa_cons (pv 2) (pa_cons (pv 2) pa_nil))))
        (pa_cons (pe_tup (pa_cons pe_str (pa_cons (pe_lst (pa_cons (pe_tup (pa_cons (pe_ix ix_str (pv 2) pe_int (fun _ _ => rfl)) (pa_cons (pe_ix ix_str (pv 2) pe_int (fun _ _ => rfl)) pa_nil))) pa_nil)) pa_nil))) pa_nil)))))
      (pe_df DC hr (by decide) (by rfl) (pa_cons (pv 0) (pa_cons pe_int pa_nil))) (fun _ _ => rfl)))
    (pss_one (ps_ret (pe_op op_cat (pe_op op_cat (pe_slice sl_list (pv 1) po_none (po_some (pv 3))) (pe_lst (pa_cons (pv 4) pa_nil))) (pe_slice sl_list (pv 1) (po_some (pv 3)) po_none))))), ?_⟩
  obtain ⟨p, v, os, L, c, rfl, hv, D, hL, hc, hp, q⟩ := h
  obtain ⟨a, vs, hva, ha, hvs⟩ := hv.odsL
  subst hva
  have hlen := paired_len hvs
  have hl1 := D.len
  refine cup_run (p := p) (m := (vs.length : Int) + 1) (ev_var rfl) (ev_op (ev_len (ev_var rfl) (sq_of ha)) ev_c rv_I0) (by omega) (by omega) hp fun d H1 d1 d2 mv hp1 => ?_
  obtain ⟨k, rfl⟩ := Int.eq_ofNat_of_zero_le d1
  have hv1 := hv.mv hp mv
  have hsgn : Ev (tOp rIxS (tVar 2) (tC (.int 0))) [some (.ref p), some (.ref a), some (st [c]), some (.int (k : Int)), none] H1 (st [c]) := ev_op (ev_var rfl) ev_c (rv_ixS' (x := [c]) (i := 0) (by simp) rfl)
  refine q_ixcup (p := p) (m := 4) (os := [.first 0, .back [], .rep [c] [c], .letters [(c, c)]]) (i := 4) (ep_ods (epl_cons mo_od (ep_first (n := 0) ev_c ev_c) (epl_cons mo_od (ep_back (x := []) ev_c ev_c) (epl_cons mo_od (ep_rep ev_c (ev_var rfl) (ev_var rfl)) (epl_cons mo_od (ep_letters ev_c (ep_lst mo_pair (epl_cons mo_pair (ep_pair hsgn hsgn) epl_nil) (Nat.le_of_ble_eq_true rfl))) epl_nil)))) (Nat.le_of_ble_eq_true rfl))
    (ev_var rfl) ev_c (by decide) (by decide) hp1 fun y j H2 H3 e2 hy j1 j2 mv3 hp3 => ?_
  have hp2 := hp1.ex e2
  obtain ⟨j, rfl⟩ := Int.eq_ofNat_of_zero_le j1
  obtain ⟨b, ws, rfl, hb, hws⟩ := hy.mv hp2 mv3
  have hv3 := (hv1.mono e2).mv hp2 mv3
  have hj : j < ws.length := by
    have := paired_len hws
    simp at this
    omega
  obtain ⟨o, ho, hwo⟩ := paired_get hws (List.getElem?_eq_getElem hj)
  refine ⟨b, ws, (j : Int), ws[j], rfl, rfl, sq_of hb, atI_nat (List.getElem?_eq_getElem hj), ?_⟩
  have facts : Idle1 o ∧ OkO o ∧ (∀ x ∈ namedM o, x ∈ L) ∧ (stOf o).length ≤ 3 := by
    match j, j2, ho with
    | 0, _, ho => cases ho; exact ⟨idle_first, by show (0 : Nat) ≤ 2; decide, (fun _ h => nomatch h), by decide⟩
    | 1, _, ho => cases ho; exact ⟨idle_back, by show (0 : Nat) ≤ 3; decide, (fun _ h => nomatch h), by decide⟩
    | 2, _, ho => cases ho; exact ⟨idle_rep c, ⟨by simp, by simp, by simp⟩, (fun x h => by simp [namedM] at h; rw [h]; exact hc), by simp [stOf]⟩
    | 3, _, ho => cases ho; exact ⟨idle_letters c, ⟨by simp, by simp⟩, (fun x h => by simp [namedM] at h; rw [h]; exact hc), by simp [stOf]⟩
  obtain ⟨f1, f2, f3, f4⟩ := facts
  have hvL := hv3.odsL
  have h4 : EvR (tLst (tCons (tVar 4) tNil)) [some (.ref p), some (.ref a), some (st [c]), some (.int (k : Int)), some ws[j]] H3 [o] := ep_ods (epl_cons mo_od (ep_var rfl fun H4 e4 => hwo.mono e4) epl_nil) (Nat.le_of_ble_eq_true rfl)
  refine er_cat (er_cat (er_take (i := 1) (j := 3) rfl hvL rfl) h4 ?_) (er_drop (i := 1) (j := 3) rfl hvL rfl) ?_ H3 (Ex.refl H3) _ fun u H4 e4 hu => ?_
  · simp only [List.length_take, List.length_cons, List.length_nil]; omega
  · simp only [List.length_append, List.length_take, List.length_cons, List.length_nil, List.length_drop]; omega
  exact q u _ H4 hu (D.idle f2 f3 hL f4 k) (alike_in f1 os k) (((mv.trans (Mv.ex e2)).trans mv3).trans (Mv.ex e4)) (hp3.ex e4)
end
end Ev
set_option Elab.async false
set_option linter.all false
set_option maxRecDepth 100000
set_option maxHeartbeats 1000000
namespace Ev
open PySem PySem.Spec PyProof.Rows L2 Evl StX LamX NdefX
def RowR (H : Hp) (v : V) (r : List Od × List Od) : Prop := ∃ a x y, v = .ref a ∧ H a = some (.tup [x, y]) ∧ OdsL H x r.1 ∧ OdsL H y r.2
theorem mo_row : Mo RowR := fun v r H H' e h => let ⟨a, x, y, h1, h2, h3, h4⟩ := h; ⟨a, x, y, h1, e _ _ h2, h3.mono e, h4.mono e⟩
abbrev ABC : Tx := [97, 98, 99]
structure Good (r : List Od × List Od) : Prop where
  d1 : DR ABC 2 84 r.1
  d2 : DR ABC 2 84 r.2
  al : Alike r.1 r.2
theorem abc_sg : AllSg ABC := by unfold AllSg; decide
theorem dr_of {L : Tx} {os : List Od} (hL : AllSg L) (h1 : ∀ o ∈ os, OkO o) (h2 : ∀ c ∈ namedsM os, c ∈ L) (h3 : os.length ≤ 2) (h4 : nn os ≤ 84) : DR L 2 84 os := ⟨h1, fun c hc => hL c (h2 c hc), h3, h4, h2⟩
/-! the six known rows -/
def rowK (a b n m : Nat) : Nat → List Od × List Od
  | 0 => ([.front [a], .front [b]], [.front ([b] ++ [a])])
  | 1 => ([.back [a], .back [b]], [.back ([a] ++ [b])])
  | 2 => ([.first n, .first (2 - n)], [.first 2])
  | 3 => ([.first n, .last m], [.last m, .first n])
  | 4 => ([.rep [a] [b]], [.letters [(a, b)]])
  | _ => ([.letters [(97, 98), (98, 99), (99, 97)], .letters [(98, 97), (99, 98), (97, 99)]], [])
theorem nn_two (o u : Od) : nn [o, u] = (stOf o).length * ((stOf u).length * 1) := rfl
theorem st_first (n : Nat) : (stOf (.first n)).length = n + 1 := by show ((List.range (n + 1)).map _).length = _; rw [List.length_map, List.length_range]
theorem st_last (m : Nat) : (stOf (.last m)).length ≤ 28 := by
  show (if m = 0 then [Ms.txt []] else .txt [] :: SG.map fun c => .txt [c]).length ≤ 28
  split
  · decide
  · simp [SG]
theorem good_row {a b n m : Nat} (ha : a ∈ ABC) (hb : b ∈ ABC) (hn : n ≤ 2) (hm : m ≤ 1) (i : Nat) (hi : i < 6) : Good (rowK a b n m i) := by
  match i, hi with
  | 0, _ =>
    refine ⟨dr_of abc_sg ?_ ?_ (by simp [rowK]) (by simp [rowK, nn_two, stOf]), dr_of abc_sg ?_ ?_ (by simp [rowK]) (by simp [rowK, nn, stOf]), fun w _ => pair_front _ _ _⟩
    · intro o ho; simp [rowK] at ho; rcases ho with rfl | rfl <;> simp [OkO]
    · intro c hc; simp [rowK, namedsM, namedM] at hc; rcases hc with rfl | rfl <;> assumption
    · intro o ho; simp [rowK] at ho; subst ho; simp [OkO]
    · intro c hc; simp [rowK, namedsM, namedM] at hc; rcases hc with rfl | rfl <;> assumption
  | 1, _ =>
    refine ⟨dr_of abc_sg ?_ ?_ (by simp [rowK]) (by simp [rowK, nn_two, stOf]), dr_of abc_sg ?_ ?_ (by simp [rowK]) (by simp [rowK, nn, stOf]), fun w _ => pair_back _ _ _⟩
    · intro o ho; simp [rowK] at ho; rcases ho with rfl | rfl <;> simp [OkO]
    · intro c hc; simp [rowK, namedsM, namedM] at hc; rcases hc with rfl | rfl <;> assumption
    · intro o ho; simp [rowK] at ho; subst ho; simp [OkO]
    · intro c hc; simp [rowK, namedsM, namedM] at hc; rcases hc with rfl | rfl <;> assumption
  | 2, _ =>
    refine ⟨dr_of abc_sg ?_ ?_ (by simp [rowK]) ?_, dr_of abc_sg ?_ ?_ (by simp [rowK]) (by simp [rowK, nn, stOf]), fun w _ => pair_first hn _⟩
    · intro o ho; simp [rowK] at ho; rcases ho with rfl | rfl <;> (show _ ≤ 2; omega)
    · intro c hc; simp [rowK, namedsM, namedM] at hc
    · show nn [.first n, .first (2 - n)] ≤ 84
      rw [nn_two, st_first, st_first, Nat.mul_one]
      exact Nat.le_trans (Nat.mul_le_mul (show n + 1 ≤ 3 by omega) (show 2 - n + 1 ≤ 3 by omega)) (by decide)
    · intro o ho; simp [rowK] at ho; subst ho; show (2 : Nat) ≤ 2; omega
    · intro c hc; simp [rowK, namedsM, namedM] at hc
  | 3, _ =>
    refine ⟨dr_of abc_sg ?_ ?_ (by simp [rowK]) ?_, dr_of abc_sg ?_ ?_ (by simp [rowK]) ?_, fun w _ => pair_ends _ _ _⟩
    · intro o ho; simp [rowK] at ho; rcases ho with rfl | rfl
      · show n ≤ 2; omega
      · show m ≤ 1; omega
    · intro c hc; simp [rowK, namedsM, namedM] at hc
    · show nn [.first n, .last m] ≤ 84
      rw [nn_two, st_first, Nat.mul_one]
      exact Nat.le_trans (Nat.mul_le_mul (show n + 1 ≤ 3 by omega) (st_last m)) (by decide)
    · intro o ho; simp [rowK] at ho; rcases ho with rfl | rfl
      · show m ≤ 1; omega
      · show n ≤ 2; omega
    · intro c hc; simp [rowK, namedsM, namedM] at hc
    · show nn [.last m, .first n] ≤ 84
      rw [nn_two, st_first, Nat.mul_one]
      exact Nat.le_trans (Nat.mul_le_mul (st_last m) (show n + 1 ≤ 3 by omega)) (by decide)
  | 4, _ =>
    refine ⟨dr_of abc_sg ?_ ?_ (by simp [rowK]) (by simp [rowK, nn, stOf]), dr_of abc_sg ?_ ?_ (by simp [rowK]) (by simp [rowK, nn, stOf]), fun w _ => pair_letter _ _ _⟩
    · intro o ho; simp [rowK] at ho; subst ho; simp [OkO]
    · intro c hc; simp [rowK, namedsM, namedM] at hc; rcases hc with rfl | rfl <;> assumption
    · intro o ho; simp [rowK] at ho; subst ho; simp [OkO]
    · intro c hc; simp [rowK, namedsM, namedM] at hc; rcases hc with rfl | rfl <;> assumption
  | 5, _ =>
    refine ⟨dr_of abc_sg ?_ ?_ (by simp [rowK]) (by simp [rowK, nn, stOf]), dr_of abc_sg ?_ ?_ (by simp [rowK]) (by simp [rowK, nn]), fun w _ => pair_ring _⟩
    · intro o ho; simp [rowK] at ho; rcases ho with rfl | rfl <;> simp [OkO]
    · intro c hc; simp [rowK, namedsM, namedM] at hc; simp [ABC]; omega
    · intro o ho; simp [rowK] at ho
    · intro c hc; simp [rowK, namedsM, namedM] at hc
section
variable {σ : L2.St} {H : Hp} {ta tb te : TE} {D : Ends} {tz : TS}
theorem q_asgP {R : Hp → V → Prop} {i : Nat} (h : EvP te σ H R) (k : ∀ v H1, Ex H H1 → R H1 v → tz D (σ.set i (some v)) H1) : tSeq (tAsg te (gName i)) tz D σ H := h H (Ex.refl H) _ k
theorem ep_row {os ps : List Od} (h1 : EvR ta σ H os) (h2 : EvR tb σ H ps) : EvP (tTup (tCons ta (tCons tb tNil))) σ H fun H v => RowR H v (os, ps) :=
  ep_tupRR (R1 := fun H v => OdsL H v os) (R2 := fun H v => OdsL H v ps) h1 h2 (fun _ _ _ e h => h.mono e) (fun _ _ _ e h => h.mono e) fun a x y H h r1 r2 => ⟨a, x, y, rfl, h, r1, r2⟩
theorem ep_cat {α : Type} {R : Hp → V → α → Prop} (m : Mo R) {xs ys : List α} (h1 : EvP ta σ H (LsR R xs)) (h2 : EvP tb σ H (LsR R ys)) (hz : xs.length + ys.length ≤ 1000) : EvP (tOp rCat ta tb) σ H (LsR R (xs ++ ys)) := fun H1 e Q q =>
  h1 H1 e _ fun x H2 e2 hx => h2 H2 (e.trans e2) _ fun y H3 e3 hy => by
    obtain ⟨a, vs, rfl, ha, hp⟩ := LsR.mono m _ _ _ _ e3 hx
    obtain ⟨b, us, rfl, hb, hq⟩ := hy
    refine ⟨a, b, vs, us, rfl, rfl, ha, hb, ?_, fun p hpn => q _ _ ((e2.trans e3).trans (Ex.new hpn)) ⟨p, vs ++ us, rfl, upd_same, ?_⟩⟩
    · rw [paired_len hp, paired_len hq]
      exact Nat.le_trans hz (by decide)
    · exact paired_app (L2.Paired.mapP hp fun _ _ z => m _ _ _ _ (Ex.new hpn) z) (L2.Paired.mapP hq fun _ _ z => m _ _ _ _ (Ex.new hpn) z)
end
theorem vA : (V.str "a") = st [97] := congrArg V.str (by decide +kernel)
theorem vB : (V.str "b") = st [98] := congrArg V.str (by decide +kernel)
theorem vC : (V.str "c") = st [99] := congrArg V.str (by decide +kernel)
section
variable {P : Program} {w : World} {K : PySem.W.Frag} {mg : Str → Option Value} {base : Heap}
section
variable {σ : L2.St} {H : Hp} {ta tb te : TE}
/-- [(y, x) for x, y in pairs] -/
theorem ep_turn {i j k : Nat} {vs : List Nat} {v : V} {ps : List (Nat × Nat)} (h : σ[k]? = some (some v)) (hv : LsR PairV ps H v) (hl : ps.length ≤ 1000) (hw : ∀ x y, wipe (((wipe σ vs).set i (some x)).set j (some y)) vs = wipe σ vs)
    (ha : ∀ x y, (((wipe σ vs).set i (some x)).set j (some y))[j]? = some (some y)) (hb : ∀ x y, (((wipe σ vs).set i (some x)).set j (some y))[i]? = some (some x)) :
    EvP (tLc (iList K (tVar k)) (g2 K i j) tYes (tTup (tCons (tVar j) (tCons (tVar i) tNil))) vs) σ H (LsR PairV (ps.map fun p => (p.2, p.1))) := fun H1 e Q q => by
  obtain ⟨a, ws, rfl, hA, hp⟩ := LsR.mono mo_pair _ _ _ _ e hv
  have hlen := paired_len hp
  refine ⟨.ref a, h, a, rfl, ⟨ws, sq_of hA⟩, fun D nD => ?_⟩
  have hDa : a ≠ D := fun z => by rw [z, nD] at hA; cases hA
  refine lc_it (walk_list (a := a) (xs := ws)) (fun n H' => Ex H1 H' ∧ ∃ us, H' D = some (.lst us) ∧ Paired (PairV H') us ((ps.take n).map fun p => (p.2, p.1))) ⟨Ex.new nD, [], upd_same, .nil⟩ (fun n H' _ z => sq_of (z.1 _ _ hA)) (fun n x H' H'' hn ⟨e1, us, hD, hus⟩ hy => ?_) (fun H' ⟨e1, us, hD, hus⟩ => ?_)
  · obtain ⟨eH, hx⟩ := hy
    have eH := eH.symm
    subst eH
    obtain ⟨pr, hpr, T, rfl, hT⟩ := paired_get hp hx
    have hT1 := ex_rd e1 hT
    refine ⟨T, [st [pr.1], st [pr.2]], rfl, rd_t hT1, rfl, _, _, rfl, _, _, rfl, rfl, hw _ _, ?_⟩
    unfold tYes
    dsimp only
    rw [if_pos (rfl : true = true)]
    refine ⟨_, ha _ _, _, hb _ _, sz_of (n := 2) (Nat.le_of_ble_eq_true rfl), fun T2 nT2 => ⟨us, ?_, ?_, ?_, us ++ [.ref T2], upd_same, ?_⟩⟩
    · rw [upd_ne (fun z => by rw [← z, hD] at nT2; cases nT2)]; exact hD
    · have := paired_len hus
      rw [List.length_map, List.length_take] at this
      exact Nat.lt_of_le_of_lt (show us.length ≤ 1000 by omega) (by decide)
    · exact (e1.trans (Ex.new nT2)).mut nD
    · have hDT : D ≠ T2 := fun z => by rw [← z, hD] at nT2; cases nT2
      have keep : ∀ {b : Addr} {xs : List V}, Rd H' b (.tup xs) → Rd (upd (upd H' T2 (.tup [st [pr.2], st [pr.1]])) D (.lst (us ++ [.ref T2]))) b (.tup xs) := fun {b xs} hb => by
        have n1 : b ≠ D := fun z => by rcases hb with hb | ⟨o, hb⟩ <;> rw [z, hD] at hb <;> cases hb
        have n2 : b ≠ T2 := fun z => by rcases hb with hb | ⟨o, hb⟩ <;> rw [z, nT2] at hb <;> cases hb
        rcases hb with hb | ⟨o, hb⟩
        · exact .inl (by rw [upd_ne n1, upd_ne n2]; exact hb)
        · exact .inr ⟨o, by rw [upd_ne n1, upd_ne n2]; exact hb⟩
      rw [List.take_add_one, hpr, List.map_append]
      exact paired_app (L2.Paired.mapP hus fun x y z => let ⟨b, g1, g2⟩ := z; ⟨b, g1, keep g2⟩) (.cons ⟨T2, rfl, .inl (by rw [upd_ne (Ne.symm hDT), upd_same])⟩ .nil)
  · rw [hlen, List.take_length] at hus
    exact q (.ref D) H' e1 ⟨D, us, rfl, hD, hus⟩
end
/-! ### _law_known -/
theorem nd_known : (["_law_pump_here", "_law_word_it", "_law_other_it", "_law_n", "_law_m", "_law_way", "_law_pairs", "_law_rows", "_law_one_it", "_law_two"] : List Str).Nodup := by decide +kernel
theorem sc_known : FnScope ["_law_pump_here", "_law_word_it", "_law_other_it", "_law_n", "_law_m", "_law_way", "_law_pairs", "_law_rows", "_law_one_it", "_law_two"] ["_law_pump_here", "_law_word_it", "_law_other_it"] (defScope (top 45)) := ⟨rfl, rfl, rfl, by decide +kernel, rfl, by decide +kernel, by decide +kernel⟩
def spKnown : Sp := fun vs H Q _ => ∃ (p : Addr) (a b : Nat), vs = [.ref p, st [a], st [b]] ∧ a ∈ ABC ∧ b ∈ ABC ∧ PumpOk p H ∧ ∀ (v : V) (r1 r2 : List Od × List Od) H', LsR RowR [r1, r2] H' v → Good r1 → Good r2 → Mv p H H' → PumpOk p H' → Q v H'
theorem ok_known (F : At K mg 45 "_law_known") (G : Gb mg) (DC : Df P w K mg base 1 "_law_cup" ["_law_pump_here", "_law_many"] spCup) : Df P w K mg base 2 "_law_known" ["_law_pump_here", "_law_word_it", "_law_other_it"] spKnown := by
  refine Df.made (N := ["_law_pump_here", "_law_word_it", "_law_other_it", "_law_n", "_law_m", "_law_way", "_law_pairs", "_law_rows", "_law_one_it", "_law_two"]) F sc_known (fun _ _ _ _ _ _ us hl => match us, hl with | [_, _, _], _ => rfl) (fun vs H Q E h => ?_) (fun f cdv A outer s H vs Q E hr h => ?_)
  · obtain ⟨p, a, b, rfl, _⟩ := h; rfl
  refine ⟨_, pss_cons (ps_par3 (i := 3) (j := 4) (l := 5) rfl sc_known.nd rfl rfl rfl (by decide) (by decide) (by decide) rfl rfl rfl (pa_cons (pe_df DC hr (by decide) (by rfl) (pa_cons (pv 0) (pa_cons pe_int pa_nil))) (pa_cons (pe_df DC hr (by decide) (by rfl) (pa_cons (pv 0) (pa_cons pe_int pa_nil))) (pa_cons (pe_df DC hr (by decide) (by rfl) (pa_cons (pv 0) (pa_cons pe_int pa_nil))) pa_nil))) rfl)
    (pss_cons (ps_set (i := 6) sc_known.nd rfl (.inl rfl) (pe_lst (pa_cons (pe_tup (pa_cons pe_str (pa_cons pe_str pa_nil))) (pa_cons (pe_tup (pa_cons pe_str (pa_cons pe_str pa_nil))) (pa_cons (pe_tup (pa_cons pe_str (pa_cons pe_str pa_nil))) pa_nil)))))
    (pss_cons (ps_set (i := 7) sc_known.nd rfl (.inl rfl) (pe_lst (pa_cons (pe_tup (pa_cons (pe_lst (pa_cons (pe_tup (pa_cons pe_str (pa_cons (pv 1) pa_nil))) (pa_cons (pe_tup (pa_cons pe_str (pa_cons (pv 2) pa_nil))) pa_nil))) (pa_cons (pe_lst (pa_cons (pe_tup (pa_cons pe_str (pa_cons (pe_op op_add_str (pv 2) (pv 1)) pa_nil))) pa_nil)) pa_nil)))
      (pa_cons (pe_tup (pa_cons (pe_lst (pa_cons (pe_tup (pa_cons pe_str (pa_cons (pv 1) pa_nil))) (pa_cons (pe_tup (pa_cons pe_str (pa_cons (pv 2) pa_nil))) pa_nil))) (pa_cons (pe_lst (pa_cons (pe_tup (pa_cons pe_str (pa_cons (pe_op op_add_str (pv 1) (pv 2)) pa_nil))) pa_nil)) pa_nil))) pa_nil))))
    (pss_cons (ps_set (i := 7) sc_known.nd rfl (.inl rfl) (pe_op op_cat (pv 7) (pe_lst (pa_cons (pe_tup (pa_cons (pe_lst (pa_cons (pe_tup (pa_cons pe_str (pa_cons (pv 3) pa_nil))) (pa_cons (pe_tup (pa_cons pe_str (pa_cons (pe_op op_sub pe_int (pv 3)) pa_nil))) pa_nil))) (pa_cons (pe_lst (pa_cons (pe_tup (pa_cons pe_str (pa_cons pe_int pa_nil))) pa_nil)) pa_nil)))
      (pa_cons (pe_tup (pa_cons (pe_lst (pa_cons (pe_tup (pa_cons pe_str (pa_cons (pv 3) pa_nil))) (pa_cons (pe_tup (pa_cons pe_str (pa_cons (pv 4) pa_nil))) pa_nil))) (pa_cons (pe_lst (pa_cons (pe_tup (pa_cons pe_str (pa_cons (pv 4) pa_nil))) (pa_cons (pe_tup (pa_cons pe_str (pa_cons (pv 3) pa_nil))) pa_nil))) pa_nil))) pa_nil)))))
    (pss_cons (ps_set (i := 7) sc_known.nd rfl (.inl rfl) (pe_op op_cat (pv 7) (pe_lst (pa_cons (pe_tup (pa_cons (pe_lst (pa_cons (pe_tup (pa_cons pe_str (pa_cons (pv 1) (pa_cons (pv 2) pa_nil)))) pa_nil)) (pa_cons (pe_lst (pa_cons (pe_tup (pa_cons pe_str (pa_cons (pe_lst (pa_cons (pe_tup (pa_cons (pv 1) (pa_cons (pv 2) pa_nil))) pa_nil)) pa_nil))) pa_nil)) pa_nil))) pa_nil))))
    (pss_cons (ps_set (i := 7) sc_known.nd rfl (.inl rfl) (pe_op op_cat (pv 7) (pe_lst (pa_cons (pe_tup (pa_cons (pe_lst (pa_cons (pe_tup (pa_cons pe_str (pa_cons (pv 6) pa_nil))) (pa_cons (pe_tup (pa_cons pe_str (pa_cons
        (pe_lc (own := [("_law_one_it", 8), ("_law_two", 9)]) (g := g2 K 8 9) (tt := tYes) (te := tTup (tCons (tVar 9) (tCons (tVar 8) tNil))) rfl sc_known.nd (pi_list (pv 6)) (blkOk_by (own := [("_law_one_it", 8), ("_law_two", 9)]) (N := ["_law_pump_here", "_law_word_it", "_law_other_it", "_law_n", "_law_m", "_law_way", "_law_pairs", "_law_rows", "_law_one_it", "_law_two"]) (sc := defScope (top 45)) (by decide +kernel))
          (fun _ _ _ _ _ => pg_tup rfl (pgs_cons (pg_name (i := 8) sc_known.nd rfl (.inl rfl)) (pgs_cons (pg_name (i := 9) sc_known.nd rfl (.inl rfl)) pgs_nil))) (fun _ _ _ _ _ => pts_nil) (fun _ _ _ _ _ => pe_tup (pa_cons (pv 9) (pa_cons (pv 8) pa_nil)))) pa_nil))) pa_nil)))
        (pa_cons (pe_lst pa_nil) pa_nil))) pa_nil))))
    (pss_one (ps_ret (pe_lst (pa_cons (pe_ix ix_list (pv 7) (pv 5) (fun _ _ => rfl)) (pa_cons (pe_ix ix_list (pv 7) (pe_op op_mod (pe_op op_add (pv 5) pe_int) pe_int) (fun _ _ => rfl)) pa_nil)))))))))), ?_⟩
  obtain ⟨p, a, b, rfl, ha, hb, hp, q⟩ := h
  refine cup_run (p := p) (m := 3) (ev_var rfl) ev_c (by decide) (by decide) hp fun n G1 n1 n2 mv1 hp1 => ?_
  refine cup_run (p := p) (m := 2) (ev_var rfl) ev_c (by decide) (by decide) hp1 fun m G2 m1 m2 mv2 hp2 => ?_
  refine cup_run (p := p) (m := 6) (ev_var rfl) ev_c (by decide) (by decide) hp2 fun y G3 y1 y2 mv3 hp3 => ⟨_, _, _, rfl, ?_⟩
  obtain ⟨n, rfl⟩ := Int.eq_ofNat_of_zero_le n1
  obtain ⟨m, rfl⟩ := Int.eq_ofNat_of_zero_le m1
  obtain ⟨y, rfl⟩ := Int.eq_ofNat_of_zero_le y1
  have mv := (mv1.trans mv2).trans mv3
  refine q_asgP (R := LsR PairV [(97, 98), (98, 99), (99, 97)]) (ep_lst mo_pair (epl_cons mo_pair (ep_pair (ev_is ev_c vA) (ev_is ev_c vB)) (epl_cons mo_pair (ep_pair (ev_is ev_c vB) (ev_is ev_c vC)) (epl_cons mo_pair (ep_pair (ev_is ev_c vC) (ev_is ev_c vA)) epl_nil))) (Nat.le_of_ble_eq_true rfl)) fun vp H1 e1 hvp => ?_
  refine q_asgP (R := LsR RowR [rowK a b n m 0, rowK a b n m 1]) (ep_lst mo_row (epl_cons mo_row (ep_row (ep_ods (epl_cons mo_od (ep_front ev_c (ev_var rfl)) (epl_cons mo_od (ep_front ev_c (ev_var rfl)) epl_nil)) (Nat.le_of_ble_eq_true rfl)) (ep_ods (epl_cons mo_od (ep_front ev_c (ev_op (ev_var rfl) (ev_var rfl) (rv_addS (Nat.le_of_ble_eq_true rfl)))) epl_nil) (Nat.le_of_ble_eq_true rfl)))
    (epl_cons mo_row (ep_row (ep_ods (epl_cons mo_od (ep_back ev_c (ev_var rfl)) (epl_cons mo_od (ep_back ev_c (ev_var rfl)) epl_nil)) (Nat.le_of_ble_eq_true rfl)) (ep_ods (epl_cons mo_od (ep_back ev_c (ev_op (ev_var rfl) (ev_var rfl) (rv_addS (Nat.le_of_ble_eq_true rfl)))) epl_nil) (Nat.le_of_ble_eq_true rfl))) epl_nil)) (Nat.le_of_ble_eq_true rfl)) fun v1 H2 e2 hv1 => ?_
  refine q_asgP (R := LsR RowR ([rowK a b n m 0, rowK a b n m 1] ++ [rowK a b n m 2, rowK a b n m 3])) (ep_cat mo_row (ep_var rfl fun H3 e3 => LsR.mono mo_row _ _ _ _ e3 hv1) (ep_lst mo_row (epl_cons mo_row (ep_row (ep_ods (epl_cons mo_od (ep_first ev_c (ev_var rfl)) (epl_cons mo_od (ep_first ev_c (ev_is (ev_op ev_c (ev_var rfl) rv_I0) (by congr 1; omega))) epl_nil)) (Nat.le_of_ble_eq_true rfl)) (ep_ods (epl_cons mo_od (ep_first (n := 2) ev_c ev_c) epl_nil) (Nat.le_of_ble_eq_true rfl)))
    (epl_cons mo_row (ep_row (ep_ods (epl_cons mo_od (ep_first ev_c (ev_var rfl)) (epl_cons mo_od (ep_last ev_c (ev_var rfl)) epl_nil)) (Nat.le_of_ble_eq_true rfl)) (ep_ods (epl_cons mo_od (ep_last ev_c (ev_var rfl)) (epl_cons mo_od (ep_first ev_c (ev_var rfl)) epl_nil)) (Nat.le_of_ble_eq_true rfl))) epl_nil)) (Nat.le_of_ble_eq_true rfl)) (Nat.le_of_ble_eq_true rfl)) fun v2 H3 e3 hv2 => ?_
  refine q_asgP (R := LsR RowR (([rowK a b n m 0, rowK a b n m 1] ++ [rowK a b n m 2, rowK a b n m 3]) ++ [rowK a b n m 4])) (ep_cat mo_row (ep_var rfl fun H4 e4 => LsR.mono mo_row _ _ _ _ e4 hv2) (ep_lst mo_row (epl_cons mo_row (ep_row (ep_ods (epl_cons mo_od (ep_rep ev_c (ev_var rfl) (ev_var rfl)) epl_nil) (Nat.le_of_ble_eq_true rfl)) (ep_ods (epl_cons mo_od (ep_letters ev_c (ep_lst mo_pair (epl_cons mo_pair (ep_pair (ev_var rfl) (ev_var rfl)) epl_nil) (Nat.le_of_ble_eq_true rfl))) epl_nil) (Nat.le_of_ble_eq_true rfl))) epl_nil) (Nat.le_of_ble_eq_true rfl)) (Nat.le_of_ble_eq_true rfl)) fun v3 H4 e4 hv3 => ?_
  have e14 := (e2.trans e3).trans e4
  have hvp4 := LsR.mono mo_pair _ _ _ _ e14 hvp
  refine q_asgP (R := LsR RowR ((([rowK a b n m 0, rowK a b n m 1] ++ [rowK a b n m 2, rowK a b n m 3]) ++ [rowK a b n m 4]) ++ [rowK a b n m 5])) (ep_cat mo_row (ep_var rfl fun H5 e5 => LsR.mono mo_row _ _ _ _ e5 hv3) (ep_lst mo_row (epl_cons mo_row (ep_row (ep_ods (epl_cons mo_od (ep_letters ev_c (ep_var rfl fun H5 e5 => LsR.mono mo_pair _ _ _ _ e5 hvp4)) (epl_cons mo_od (ep_letters (ps := [(97, 98), (98, 99), (99, 97)].map fun p => (p.2, p.1)) ev_c (ep_turn rfl hvp4 (by decide) (fun _ _ => rfl) (fun _ _ => rfl) (fun _ _ => rfl))) epl_nil)) (Nat.le_of_ble_eq_true rfl)) er_nil) epl_nil) (Nat.le_of_ble_eq_true rfl)) (Nat.le_of_ble_eq_true rfl)) fun v4 H5 e5 hv4 => ?_
  obtain ⟨A, ws, rfl, hA, hws⟩ := hv4
  have hlen := paired_len hws
  have rowAt : ∀ i, i < 6 → ((([rowK a b n m 0, rowK a b n m 1] ++ [rowK a b n m 2, rowK a b n m 3]) ++ [rowK a b n m 4]) ++ [rowK a b n m 5])[i]? = some (rowK a b n m i) := fun i hi => by
    match i, hi with
    | 0, _ => rfl
    | 1, _ => rfl
    | 2, _ => rfl
    | 3, _ => rfl
    | 4, _ => rfl
    | 5, _ => rfl
  have getW : ∀ i, i < 6 → ∃ x, ws[i]? = some x ∧ RowR H5 x (rowK a b n m i) := fun i hi => by
    have hi' : i < ws.length := by rw [hlen]; exact hi
    obtain ⟨r, h1, h2⟩ := paired_get hws (List.getElem?_eq_getElem hi')
    rw [rowAt i hi] at h1
    cases h1
    exact ⟨_, List.getElem?_eq_getElem hi', h2⟩
  have hy6 : y < 6 := by omega
  have hz6 : (y + 1) % 6 < 6 := Nat.mod_lt _ (by decide)
  obtain ⟨x1, g1, r1⟩ := getW y hy6
  obtain ⟨x2, g2, r2⟩ := getW ((y + 1) % 6) hz6
  refine s_retL (el_lst (ea_cons (ev_op (ev_var rfl) (ev_var rfl) (rv_ixL (sq_of hA) (atI_nat g1))) (ea_cons (ev_op (ev_var rfl) (ev_is (v := .int (((y : Int) + 1) % 6)) (ev_op (ev_op (ev_var rfl) ev_c rv_I0) ev_c (rv_I (by decide))) (by congr 1)) (rv_ixL (i := (((y + 1) % 6 : Nat) : Int)) (sq_of hA) (atI_nat g2))) ea_nil)) len2) fun T H6 nT e6 hT => ?_
  exact q (.ref T) _ _ H6 ⟨T, _, rfl, hT, .cons (mo_row _ _ _ _ e6 r1) (.cons (mo_row _ _ _ _ e6 r2) .nil)⟩ (good_row ha hb (by omega) (by omega) y hy6) (good_row ha hb (by omega) (by omega) _ hz6)
    (mv.trans (Mv.ex (((e1.trans e14).trans e5).trans e6))) (hp3.ex (((e1.trans e14).trans e5).trans e6))
end
end Ev
set_option Elab.async false
set_option linter.all false
set_option maxRecDepth 100000
set_option maxHeartbeats 1000000
namespace Ev
open PySem PySem.Spec PyProof.Rows L2 Evl StX LamX NdefX
/-! ### arguments told -/
abbrev VAK := List Value → List V → Hp → Nat → Prop
abbrev TAK := L2.St → Hp → Nat → VAK → Prop
section
variable {X : Cx} {e : Expr} {es : List Expr} {te : TEK} {t : TAK}
structure PAK (X : Cx) (es : List Expr) (t : TAK) : Prop where
  run : ∀ (pos : Pos) (pins : List (Addr × Obj)) (s : Shared) (σ : L2.St) (H : Hp) (Q : VAK), Inv X pins σ H s → t σ H s.toks Q → wpAny (model X.prog X.w) X.A (spliced (backTo pos (starEach es X.env))) (fun us s' => ∃ vs H', Inv X pins σ H' s' ∧ Vals vs us ∧ Q us vs H' s'.toks) X.xe s
def tNilK : TAK := fun _ H n Q => Q [] [] H n
def tConsK (te : TEK) (t : TAK) : TAK := fun σ H n Q => te σ H n fun u x H1 n1 => t σ H1 n1 fun us xs H2 n2 => Q (u :: us) (x :: xs) H2 n2
theorem pak_nil : PAK X [] tNilK := ⟨fun _ _ _ _ H Q I h => Calls.spliced_nil ⟨[], H, I, .nil, h⟩⟩
theorem pak_cons (ha : PEK X e te) (hr : PAK X es t) (hs : starEach (e :: es) X.env = (false, eval e X.env) :: starEach es X.env := by rfl) : PAK X (e :: es) (tConsK te t) := by
  refine ⟨fun pos pins s σ H Q I h => ?_⟩
  rw [hs]
  show wpAny _ _ (spliced ((false, eval e X.env) :: backTo pos (starEach es X.env))) _ _ s
  exact Calls.spliced_cons (thn (ha.run pins s σ H _ I h) fun u s1 ⟨x, H1, I1, r1, q1⟩ =>
    thn (hr.run pos pins s1 σ H1 _ I1 q1) fun us s2 ⟨xs, H2, I2, r2, q2⟩ => ⟨x :: xs, H2, I2, .cons r1 r2, q2⟩)
def tStrK (x : Str) : TEK := fun _ H n Q => ∀ t n', n ≤ t → t < n' → Q (.str x t) (.str x) H n'
theorem pek_str {x : Str} {j : Nat} {pos : Pos} : PEK X (.Constant (.str x) j pos) (tStrK x) :=
  ⟨fun _ s _ H _ I h => Calls.Constant_str ⟨.str x, H, I.tok _, ⟨_, rfl⟩, h _ _ (Nat.le_refl _) (Nat.lt_succ_self _)⟩⟩
def tParK (i j : Nat) (ta : TAK) : TSK := fun D σ H n => ta σ H n fun _ vs H1 n1 => ∃ v w, vs = [v, w] ∧ ∀ n2, n1 ≤ n2 → D.nx ((σ.set i (some v)).set j (some w)) H1 n2
theorem psk_par {i j : Nat} {x y : Str} {a b : Expr} {ta : TAK} {px py pt pos : Pos} {kt k2 pt2} (hc : X.calm = true) (hN : X.N.Nodup) (hi : X.N[i]? = some x) (hj : X.N[j]? = some y) (hij : i ≠ j)
    (hx : X.env.scope.names.lookup x = some .local) (hy : X.env.scope.names.lookup y = some .local) (ha : PAK X [a, b] ta)
    (hw : swappedStores [.Tuple [.Name x px, .Name y py] kt pt] (.Tuple [a, b] k2 pt2) X.env = pure (some [x, y]))
    (hs : swapsWithSole [.Tuple [.Name x px, .Name y py] kt pt] (.Tuple [a, b] k2 pt2) pos.line X.env = pure false := by rfl) :
    PSK X (.Assign [.Tuple [.Name x px, .Name y py] kt pt] (.Tuple [a, b] k2 pt2) pos) (tParK i j ta) := by
  refine ⟨fun pins s σ H D I h => ?_⟩
  rw [exec_Assign_arm]
  refine wpAny_bind (wpAny_standAt ?_)
  rw [hs]
  refine wpAny_bind (wpAny_pure ?_)
  rw [if_neg (by decide)]
  refine wpAny_bind (Tuple_ (thn (ha.run _ pins s σ H _ I h) fun us s1 ⟨vs, H1, I1, r1, q1⟩ => ?_))
  obtain ⟨v, w, e1, q1⟩ := q1
  subst e1
  obtain ⟨u1, u2, rfl, rv, rw'⟩ := r1.two
  refine wpAny_newObj_type ?_ (by show 2 ≤ sizeLine; decide)
  have I2 : Inv X pins σ H1 { s1 with heap := s1.heap.push { cls := .type "tuple", data := .seq [u1, u2].toArray } } := I1.kept (t' := s1.toks) fun b o e => Heap.get?_push_of_some _ e
  rw [hw]
  refine wpAny_bind (wpAny_pure ?_)
  show wpAny (model X.prog X.w) X.A (do rule "assign.swapped-stores"; let items ← unpackItems (.ref s1.heap.objs.size) 2 none; assignInOrder [fun v => bindName X.env y v, fun v => bindName X.env x v] items.reverse; pure Flow.next) _ _ _
  refine wpAny_bind (wpAny_rule (wpAny_bind (unpackItems_tuple (items := #[u1, u2]) (I.ok.hd hc) (IsTup.new s1.heap _) fun h' hx' => ?_)))
  have I3 := I2.kept (h' := h') (t' := s1.toks) fun b o e => hx' b o (Nat.ne_of_lt (Heap.lt_size e)) e
  show wpAny _ _ (assignInOrder [fun v => bindName X.env y v, fun v => bindName X.env x v] [u2, u1] >>= fun _ => pure Flow.next) _ _ _
  refine wpAny_bind (assignInOrder_cons (wpAny_bindName (thnT (store_ok (Q := fun _ s' => Inv X pins (σ.set j (some w)) H1 s') I3 hN hj (.inl hy) rw' (fun _ I' => I') (.inr hy)) fun _ s2 n2 I4 => ?_)))
  refine assignInOrder_cons (wpAny_bindName (thnT (store_ok (Q := fun _ s' => Inv X pins ((σ.set j (some w)).set i (some v)) H1 s') I4 hN hi (.inl hx) rv (fun _ I' => I') (.inr hx)) fun _ s3 n3 I5 => assignInOrder_nil (wpAny_pure ?_)))
  rw [List.set_comm _ _ (Ne.symm hij)] at I5
  exact ⟨_, H1, I5, q1 _ (Nat.le_trans n2 n3)⟩
def tSetK (te : TEK) (i : Nat) : TSK := fun D σ H n => te σ H n fun _ v H1 n1 => ∀ n2, n1 ≤ n2 → D.nx (σ.set i (some v)) H1 n2
theorem psk_set {i : Nat} {x : Str} {pos pos' : Pos} (hN : X.N.Nodup) (hi : X.N[i]? = some x) (hx : Loc X.env.scope x) (he : PEK X e te) (hs : swapsWith e (some (.Name x pos')) pos.line X.env = pure false := by rfl)
    (hf : X.fn x = true ∨ X.env.scope.names.lookup x = some .local := by first | exact .inl rfl | exact .inr rfl | assumption) : PSK X (.Assign [.Name x pos'] e pos) (tSetK te i) := by
  refine ⟨fun pins s σ H D I h => ?_⟩
  refine wpAny_Assign_Name (thn (he.run pins s σ H _ I h) fun v s1 ⟨y, H1, I1, r1, q1⟩ => ?_) hs
  exact thnT (Q := fun _ s' => Inv X pins (σ.set i (some y)) H1 s') (store_ok I1 hN hi hx r1 (fun s2 I2 => I2) hf) fun _ s2 hn I2 => ⟨_, H1, I2, q1 _ hn⟩
end
/-! ### a list and a dict whose very values are told -/
def LX (its : List Value) (D : Addr) : HO := .ext fun h => ∃ k, h.get? D = some (LstO its k)
def DX (P : Program) (w : World) (vs : List (Key × Value)) (d : Addr) : HO := .ext fun h => (d == sysModules) = false ∧ h.DictOf (mixKind P w) d vs
theorem lx_ok {P : Program} {w : World} {H : Hp} {h : Heap} {D : Addr} {its : List Value} {k : Nat} (e : h.get? D = some (LstO its k)) : ObjOk P w H h D (LX its D) := ⟨⟨k, e⟩, ⟨_, e⟩, fun _ _ ⟨k, e⟩ kp => ⟨k, kp _ e⟩⟩
theorem dx_ok {P : Program} {w : World} {H : Hp} {h : Heap} {d : Addr} {vs : List (Key × Value)} (hd : (d == sysModules) = false) (e : h.DictOf (mixKind P w) d vs) : ObjOk P w H h d (DX P w vs d) :=
  ⟨⟨hd, e⟩, (let ⟨o, _, _, ho, _⟩ := e; ⟨o, ho⟩), fun _ _ ⟨hd, o, es, ep, ho, r⟩ kp => ⟨hd, o, es, ep, kp _ ho, r⟩⟩
section
variable {X : Cx} {pins : List (Addr × Obj)} {σ : L2.St} {H : Hp} {s : Shared}
theorem lx_at {D : Addr} {its : List Value} (I : Inv X pins σ H s) (h : H D = some (LX its D)) : ∃ k, s.heap.get? D = some (LstO its k) := (I.hok D _ h).1
theorem dx_at {d : Addr} {vs : List (Key × Value)} (I : Inv X pins σ H s) (h : H d = some (DX X.prog X.w vs d)) : (d == sysModules) = false ∧ s.heap.DictOf (mixKind X.prog X.w) d vs := (I.hok d _ h).1
theorem tag_l {l : Addr} (I : Inv X pins σ H s) (h : H l = some (.lst [])) : Inv X pins σ (upd H l (LX [] l)) s := by
  obtain ⟨_, its, n, r, e⟩ := I.hok l _ h
  cases r
  exact I.write (x := l) (e := l) (t' := s.toks) (by rw [h]; exact trivial) (.inl rfl) (fun b u _ q => q) ⟨_, e⟩ (lx_ok (k := n) e)
theorem tag_d {d : Addr} (I : Inv X pins σ H s) (h : H d = some (.dK [])) : Inv X pins σ (upd H d (DX X.prog X.w [] d)) s := by
  obtain ⟨_, hd, vs, r, dd⟩ := I.hok d _ h
  cases r
  obtain ⟨o, ho⟩ : ∃ o, s.heap.get? d = some o := let ⟨o, _, _, ho, _⟩ := dd; ⟨o, ho⟩
  exact I.write (x := d) (e := d) (t' := s.toks) (by rw [h]; exact trivial) (.inl rfl) (fun b u _ q => q) ⟨_, ho⟩ (dx_ok hd dd)
/-- from here on the new dict and the new list are told by their very values -/
def tTag (P : Program) (w : World) (t : TSK) : TSK := fun D σ H n => ∃ d l, H d = some (.dK []) ∧ H l = some (.lst []) ∧ t D σ (upd (upd H d (DX P w [] d)) l (LX [] l)) n
theorem pssk_tag {ss : List Stmt} {t : TSK} (h : PSsK X ss t) : PSsK X ss (tTag X.prog X.w t) := by
  refine ⟨fun pins s σ H D I q => ?_⟩
  obtain ⟨d, l, hd, hl, q⟩ := q
  have hne : l ≠ d := fun z => by rw [z, hd] at hl; cases hl
  exact h.run pins s σ _ D (tag_l (tag_d I hd) (by rw [upd_ne hne]; exact hl)) q
/-! ### reading them -/
/-- d[k], the value told -/
def tGetX (P : Program) (w : World) (ta tb : TE) : TEK := fun σ H n Q => ta σ H fun x H1 => tb σ H1 fun y H2 => ∃ d vs z u v, x = .ref d ∧ y = .str z ∧ H2 d = some (DX P w vs d) ∧ valueAt vs (.inr z) = some u ∧ RelV v u ∧ ∀ n', n ≤ n' → Q u v H2 n'
theorem pek_getX {a b : Expr} {ta tb : TE} {pos : Pos} (ha : PE X a ta) (hb : PE X b tb) (hs : NoSl b) : PEK X (.Subscript a b pos) (tGetX X.prog X.w ta tb) := by
  refine ⟨fun pins s σ H Q I h => ?_⟩
  refine thnT (Q := fun u s' => ∃ v H', Inv X pins σ H' s' ∧ RelV v u ∧ ∀ n', s.toks ≤ n' → Q u v H' n') ?_ fun u s' hn ⟨v, H', I', r, q⟩ => ⟨v, H', I', r, q _ hn⟩
  refine subD_of PySem.F.slot_dict_getitem.lookup hs (thn (ha.run pins s σ H _ I h) fun u s1 ⟨x, H1, I1, rx, q1⟩ => thn (hb.run pins s1 σ H1 _ I1 q1) fun iv s2 ⟨y, H2, I2, ry, d, vs, z, u', v, ex, ey, hd, hv, rv, q⟩ => ?_)
  subst ex ey
  obtain rfl : u = Value.ref d := rx
  have dd := (dx_at I2 hd).2
  exact ⟨dd.typeIs, wpAny_getItem_of (k := (.inr z : Key)) (kV_is (k := .inr z) ry) dd.mapOf hv ⟨v, H2, I2.tok _, rv, q⟩⟩
/-- l[i], the value told -/
def tIxX (ta tb : TE) : TEK := fun σ H n Q => ta σ H fun x H1 => tb σ H1 fun y H2 => ∃ (l : Addr) (its : List Value) (i : Nat) (u : Value) (v : V), x = .ref l ∧ y = .int i ∧ H2 l = some (LX its l) ∧ its[i]? = some u ∧ i < 1000 ∧ RelV v u ∧ ∀ n', n ≤ n' → Q u v H2 n'
theorem pek_ixX {a b : Expr} {ta tb : TE} {pos : Pos} (ha : PE X a ta) (hb : PE X b tb) (hs : PlainIx b) : PEK X (.Subscript a b pos) (tIxX ta tb) := by
  refine ⟨fun pins s σ H Q I h => ?_⟩
  refine Subscript_ (thnT (ha.run pins s σ H _ I h) fun v s1 t1 ⟨x, H1, I1, r1, q1⟩ => thnT (hb.run pins s1 σ H1 _ I1 q1) fun u s2 t2 ⟨y, H2, I2, r2, q2⟩ => ?_)
  obtain ⟨l, its, i, u', v', rfl, rfl, hl, hi, hz, rv, q⟩ := q2
  obtain rfl : v = Value.ref l := r1
  obtain ⟨t, rfl⟩ := r2
  obtain ⟨k, ho⟩ := lx_at I2 hl
  exact item_listR (items := its.toArray) (x := u') ⟨_, ho, rfl, k, rfl⟩ (Int.natCast_nonneg i) (by have := line63; omega) (by simpa using hi) ⟨v', H2, I2, rv, q _ (Nat.le_trans t1 t2)⟩ (hs _ _)
end
end Ev
set_option Elab.async false
set_option linter.all false
set_option maxRecDepth 100000
set_option maxHeartbeats 1000000
namespace Ev
open PySem PySem.Spec PyProof.Rows L2 Evl StX LamX NdefX
section
variable {X : Cx} {pins : List (Addr × Obj)} {σ : L2.St} {H : Hp} {s : Shared}
/-- a plain local name is stored; its very value is known -/
theorem store_raw {M : Model} {A : Around} {E : Value → Shared → Prop} {i : Nat} {x : Str} {v : V} {u : Value} {Q : Unit → Shared → Prop} (I : Inv X pins σ H s) (hN : X.N.Nodup) (hi : X.N[i]? = some x) (hk : X.env.scope.names.lookup x = some .local) (r : RelV v u)
    (h : ∀ s', Inv X pins (σ.set i (some v)) H s' → (∃ m, s'.heap.Ns X.env.locals m ∧ m x = some u) → s.toks ≤ s'.toks → Q () s') : wpAny M A (storeName X.env x u) Q E s := by
  obtain ⟨m, hn, hl⟩ := id I.loc
  have hlen : i < σ.length := by rw [I.len]; exact (List.getElem?_eq_some_iff.mp hi).1
  have old : ∀ {b o}, X.s_0.heap.get? b = some o → b ≠ X.env.locals := fun e z => absurd (Nat.lt_of_lt_of_le (Heap.lt_size e) I.ok.above) (by rw [z]; exact Nat.lt_irrefl _)
  refine wpAny_storeName_local hk hn (fun h' hn' sb => ?_) (by rw [I.ok.kind]; rfl)
  have there : ∀ {b o}, s.heap.get? b = some o → ∃ o', h'.get? b = some o' := fun {b o} e => by
    by_cases z : b = X.env.locals
    · obtain ⟨oL, _, _, hoL, _⟩ := hn'
      exact ⟨oL, by rw [z]; exact hoL⟩
    · exact ⟨o, (sb.2 b z).trans e⟩
  have st : ∀ {b o}, b ≠ X.env.locals → s.heap.get? b = some o → h'.get? b = some o := fun z e => (sb.2 _ z).trans e
  refine h _ { ok := I.ok, os := I.os, bare := I.bare, base := ?_, loc := ?_, cell := ?_, free := I.free, freeC := I.freeC, pin := ?_, hok := ?_, len := by simpa using I.len } ⟨_, hn', by simp⟩ (Nat.le_succ _)
  · exact { keep := fun b o e n k1 k2 => st (old e) (I.base.keep b o e n k1 k2), slot := fun b o e n k1 k2 => (let ⟨sl, q⟩ := I.base.slot b o e n k1 k2; ⟨sl, st (old e) q⟩), free := I.base.free, there := fun b o e k => (let ⟨_, q⟩ := I.base.there b o e k; there q), tups := I.base.tups, frzs := I.base.frzs, tbls := I.base.tbls }
  · refine ⟨_, hn', fun j y z e1 e2 e3 => ?_⟩
    by_cases hj : j = i
    · subst hj
      obtain rfl : x = y := Option.some.inj (hi.symm.trans e1)
      rw [List.getElem?_set_self hlen] at e2
      cases e2
      exact ⟨u, r, .inl ⟨hk, by simp⟩⟩
    · rw [List.getElem?_set_ne (Ne.symm hj)] at e2
      obtain ⟨u', r', q⟩ := hl j y z e1 e2 e3
      rcases q with ⟨k, e⟩ | ⟨k, c, e, q⟩
      · have hne : y ≠ x := fun e => hj (nodup_ix hN e1 (by rw [e]; exact hi))
        exact ⟨u', r', .inl ⟨k, by simp [hne, e]⟩⟩
      · exact ⟨u', r', .inr ⟨k, c, e, q.sameBut sb (I.cne y c e)⟩⟩
  · intro y c e
    obtain ⟨z, q⟩ := I.cell y c e
    exact ⟨z, q.sameBut sb (I.cne y c e)⟩
  · intro p hp
    obtain ⟨e, n, ne, nf, d⟩ := I.pin p hp
    exact ⟨st ne e, n, ne, nf, d⟩
  · intro b ob e
    refine (I.hok b ob e).stay (fun c u' hc q => st ?_ q) (fun _ q => q) fun _ _ q => q
    intro z
    have hfr := I.free
    rcases hc with hc | hc
    · rw [← hc, z, hfr] at e; cases e
    · rw [z, hfr] at hc; cases hc
/-- a plain local name read; the state stays -/
theorem ld_raw {E : Value → Shared → Prop} {x : Str} {pos : Pos} {m : Str → Option Value} {u : Value} {Q : Value → Shared → Prop} (I : Inv X pins σ H s) (hk : X.env.scope.names.lookup x = some .local) (hn : s.heap.Ns X.env.locals m) (hm : m x = some u) (q : Q u s) (hd : (x == ("__debug__" : Str)) = false := by decide) :
    wpAny (model X.prog X.w) X.A (eval (.Name x pos) X.env) Q E s := wpAny_Name (wpAny_loadName_local I.ok.kind hk hn hm q) hd
theorem lx_write {l : Addr} {its its' : List Value} {k : Nat} {f : Array Value → Array Value} {t' : Nat} (I : Inv X pins σ H s) (h : H l = some (LX its l)) (e : s.heap.get? l = some (LstO its k)) (hf : f its.toArray = its'.toArray) :
    Inv X pins σ (upd H l (LX its' l)) { s with heap := s.heap.update l (Obj.mapSeq f), toks := t' } := by
  have q := PySem.IsL.update e f
  rw [hf] at q
  exact I.write (x := l) (e := l) (by rw [h]; exact trivial) (.inl rfl) (fun b u hb hu => by rw [← hu]; exact Heap.get?_update_other s.heap (Obj.mapSeq f) (Ne.symm hb)) ⟨_, q⟩ (lx_ok q)
/-- one turn of the mixing -/
theorem mix_body {j l p : Nat} {c : Nat} {t : Tok} {m : Str → Option Value} {its : List Value} {p2 p3 p4 p5 p6 p7 p8 p9 p10 p11 p12 p13 p14 : Pos} {k9 : Nat} (DC : Df X.prog X.w X.K X.mg X.base 1 "_law_cup" ["_law_pump_here", "_law_many"] spCup) (hr : Room j X.A) (hj : 1 ≤ j) (G : Gb X.mg)
    (hN0 : X.N[0]? = some ("_law_pump_here" : Str)) (hN3 : X.N[3]? = some ("_law_mixed" : Str)) (k0 : X.env.scope.names.lookup ("_law_pump_here" : Str) = some .local) (k3 : X.env.scope.names.lookup ("_law_mixed" : Str) = some .local) (k4 : X.env.scope.names.lookup ("_law_sign" : Str) = some .local)
    (g1 : Gl X "_law_cup") (g2 : Gl X "len") (hline : (p3.endLine == p13.line) = true) (hsw : swapsWith (.Call (.Attribute (.Name "_law_mixed" p2) "insert" p3) [.Call (.Name "_law_cup" p4) [.Name "_law_pump_here" p5, .BinOp (.Call (.Name "len" p6) [.Name "_law_mixed" p7] [] p8) .Add (.Constant (.int 1) k9 p9) p10] [] p11, .Name "_law_sign" p12] [] p13) none p14.line X.env = pure false)
    (I : Inv X pins σ H s) (hn : s.heap.Ns X.env.locals m) (hm : m "_law_sign" = some (.str (S [c]) t)) (s0 : σ[0]? = some (some (.ref p))) (s3 : σ[3]? = some (some (.ref l))) (hl : H l = some (LX its l)) (hz : its.length ≤ 1000) (hp : PumpOk p H) :
    wpAny (model X.prog X.w) X.A (exec (.Expr (.Call (.Attribute (.Name "_law_mixed" p2) "insert" p3) [.Call (.Name "_law_cup" p4) [.Name "_law_pump_here" p5, .BinOp (.Call (.Name "len" p6) [.Name "_law_mixed" p7] [] p8) .Add (.Constant (.int 1) k9 p9) p10] [] p11, .Name "_law_sign" p12] [] p13) p14) X.env)
      (fun f s' => f = .next ∧ s.toks ≤ s'.toks ∧ ∃ H' k, k ≤ its.length ∧ Inv X pins σ H' s' ∧ H' l = some (LX (its.take k ++ [.str (S [c]) t] ++ its.drop k) l) ∧ PumpOk p H' ∧ ∀ a o, H a = some o → a ≠ p → a ≠ l → H' a = some o) X.xe s := by
  obtain ⟨m1, hn1, hl1⟩ := id I.loc
  obtain ⟨u0, r0, q0⟩ := hl1 0 _ _ hN0 s0 (.inl k0)
  obtain ⟨u3, r3, q3⟩ := hl1 3 _ _ hN3 s3 (.inl k3)
  obtain rfl : u0 = Value.ref p := r0
  obtain rfl : u3 = Value.ref l := r3
  have m0 : m1 "_law_pump_here" = some (.ref p) := by
    rcases q0 with ⟨_, q⟩ | ⟨q, _⟩
    · exact q
    · rcases q with q | q <;> exact absurd (k0.symm.trans q) (by simp)
  have m3 : m1 "_law_mixed" = some (.ref l) := by
    rcases q3 with ⟨_, q⟩ | ⟨q, _⟩
    · exact q
    · rcases q with q | q <;> exact absurd (k3.symm.trans q) (by simp)
  obtain ⟨k, ho⟩ := lx_at I hl
  have hlp : l ≠ p := fun z => by
    obtain ⟨n, _, h2⟩ := hp
    rw [← z, hl] at h2; cases h2
  obtain ⟨f, fd, F, g, kp, bnd, _⟩ := DC.ex
  have h63 := line63
  refine thnT (Q := fun fl s' => fl = Flow.next ∧ ∃ H' k, k ≤ its.length ∧ Inv X pins σ H' s' ∧ H' l = some (LX (its.take k ++ [.str (S [c]) t] ++ its.drop k) l) ∧ PumpOk p H' ∧ ∀ a o, H a = some o → a ≠ p → a ≠ l → H' a = some o) ?_ fun fl s' hn z => ⟨z.1, hn, z.2⟩
  refine wpAny_Expr_any ?_ I.quiet hsw
  refine wpAny_Call_method_late rfl rfl hline rfl (ld_raw I k3 hn1 m3 ?_)
  have isl : s.heap.IsList l its.toArray := ⟨_, ho, rfl, k, rfl⟩
  refine ⟨"list", "list.insert", PySem.F.plainAttrs_list, PySem.F.slot_list_insert, PySem.F.type_list_insert, isl.typeIs, fun a e => (by cases e; exact ⟨_, ho, rfl⟩), Calls.callWith_builtin rfl (Calls.evalArgs_plain (Calls.spliced_cons ?_))⟩
  refine wpAny_Call_Name_kw (ld_glob I g1 g ?_)
  refine PySem.W.callWith_K (h₀ := X.base) I.ok.mod.kin kp (Calls.spliced_cons (ld_raw I k0 hn1 m0 (Calls.spliced_cons (wpAny_BinOp (wpAny_Call_Name_kw (ld_blt I g2 G.len rfl (callWith_builtin1 (ld_raw I k3 hn1 m3 (Calls.call_len_list isl (by simp only [List.size_toArray]; omega) (wpAny_Constant_int (add_int (Calls.spliced_nil ⟨(I.tok _).kIn, ?_⟩)))))))))))) rfl rfl
  have I1 := I.tok (s.toks + 1 + 1 + 1 + 1)
  have hb := bnd _ [.ref p, .int ((its.toArray.size : Int) + 1) (s.toks + 1 + 1 + 1)] I1.kIn (by rfl)
  rw [List.append_nil] at hb
  refine wpAny_call (codeAny_mono (F.run X.A X.stack _ H ⟨_, []⟩ _ [.ref p, .int ((its.toArray.size : Int) + 1)] (fun v H' => ∃ d, v = .int d ∧ 0 ≤ d ∧ d < (its.toArray.size : Int) + 1 ∧ Mv p H H' ∧ PumpOk p H') (fun _ _ _ => False) (hr.mono hj) I1.env0 hb (.cons rfl (.cons ⟨_, rfl⟩ .nil)) ⟨p, (its.toArray.size : Int) + 1, rfl, by omega, by simp only [List.size_toArray]; omega, hp, fun d H' h1 h2 h3 h4 => ⟨d, rfl, h1, h2, h3, h4⟩⟩) fun r s' hq => ?_)
  cases r with
  | error e => exact (show False from hq).elim
  | ok fl =>
    cases fl with
    | next => exact (show False from hq).elim
    | brk => exact (show False from hq).elim
    | cont => exact (show False from hq).elim
    | ret u =>
      obtain ⟨v, H', os, bare, un, hok, rv, d, rfl, d0, d1, mv, hp'⟩ := hq
      obtain ⟨t', rfl⟩ := rv
      have I' : Inv X pins σ H' s' := I1.call' (ch := []) os un hok bare fun _ z => nomatch z
      obtain ⟨oL, es, ep, hoL, rL⟩ := id hn
      obtain ⟨sl, hL⟩ := un.any hoL I.free (by simp)
      have hn' : s'.heap.Ns X.env.locals m := ⟨_, es, ep, hL, rL⟩
      refine Calls.spliced_cons (ld_raw I' k4 hn' hm (Calls.spliced_nil ?_))
      have hl' := mv _ _ hl hlp
      obtain ⟨k', ho'⟩ := lx_at I' hl'
      simp only [List.size_toArray] at d1
      have hfit : Builtin.List.listFitsIndex d = true := fitsIndex_of d0 (by omega)
      refine call_meets PySem.F.slot_list_insert ⟨_, ho', rfl⟩ PySem.F.entry_list_insert (PySem.F.args_list_insert_3 _ _ _) (AutoSeq1.list_insert_list_int_val_1 l its.toArray k' d t' (.str (S [c]) t) (by simp [hfit]) (by rw [List.size_toArray]; exact Nat.le_trans hz (by decide))) ⟨ho', ?_⟩
      refine ⟨rfl, upd H' l (LX (its.take d.toNat ++ [.str (S [c]) t] ++ its.drop d.toNat) l), d.toNat, by omega, lx_write I' hl' ho' ?_, upd_same, hp'.upd hlp, fun a o ha n1 n2 => by rw [upd_ne n2]; exact mv _ _ ha n1⟩
      show (its.toArray.extract 0 (if d < 0 then (d + (its.toArray.size : Int)).toNat else min d.toNat its.toArray.size)).push _ ++ its.toArray.extract (if d < 0 then (d + (its.toArray.size : Int)).toNat else min d.toNat its.toArray.size) = _
      rw [PySem.W.kl_ins_eq, if_neg (by omega), List.size_toArray, PySem.W.kmk_take_min, PySem.W.kmk_drop_min, List.append_assoc]
      rfl
end
end Ev
set_option Elab.async false
set_option linter.all false
set_option maxRecDepth 100000
set_option maxHeartbeats 1000000
namespace Ev
open PySem PySem.Spec PyProof.Rows L2 Evl StX LamX NdefX
/-- what was put together up to now: each sign once, its token its own -/
def Mixed (n0 : Nat) (seen : Tx) (ws : List (Nat × Nat)) (n : Nat) : Prop := (ws.map (·.1)).Perm seen ∧ (ws.map (·.2)).Nodup ∧ ∀ w ∈ ws, n0 ≤ w.2 ∧ w.2 < n
def rawW (ws : List (Nat × Nat)) : List Value := ws.map fun w => .str (S [w.1]) w.2
theorem mid_perm {α : Type} (xs : List α) (k : Nat) (y : α) : (xs.take k ++ [y] ++ xs.drop k).Perm (xs ++ [y]) := by
  have h : ([y] ++ xs.drop k).Perm (xs.drop k ++ [y]) := List.perm_append_comm
  have h2 := h.append_left (xs.take k)
  rw [← List.append_assoc, ← List.append_assoc, List.take_append_drop] at h2
  exact h2
theorem Mixed.step {n0 n n' : Nat} {seen : Tx} {ws : List (Nat × Nat)} (M : Mixed n0 seen ws n) (k c : Nat) (h : n0 ≤ n) (hn : n < n') : Mixed n0 (seen ++ [c]) (ws.take k ++ [(c, n)] ++ ws.drop k) n' := by
  obtain ⟨a, b, d⟩ := M
  have P := mid_perm ws k (c, n)
  refine ⟨((P.map (·.1)).trans (by rw [List.map_append]; exact a.append_right [c])), ((P.map (·.2)).nodup_iff).mpr ?_, fun w hw => ?_⟩
  · rw [List.map_append, List.nodup_append]
    refine ⟨b, by simp, fun x hx y hy => ?_⟩
    have : y = n := by simpa using hy
    subst this
    obtain ⟨w, hw, rfl⟩ := List.mem_map.mp hx
    exact Nat.ne_of_lt (d w hw).2
  · have hw' := P.mem_iff.mp hw
    rcases List.mem_append.mp hw' with hw' | hw'
    · exact ⟨(d w hw').1, Nat.lt_trans (d w hw').2 hn⟩
    · rw [List.mem_singleton.mp hw']; exact ⟨h, hn⟩
theorem rawW_mid (ws : List (Nat × Nat)) (k c t : Nat) : rawW (ws.take k ++ [(c, t)] ++ ws.drop k) = (rawW ws).take k ++ [.str (S [c]) t] ++ (rawW ws).drop k := by
  simp [rawW, List.map_take, List.map_drop]
def tMix : TSK := fun D σ H n => ∃ (p l : Addr) (x : Tx) (d : V) (y4 y5 : Option V), σ = [some (.ref p), some (st x), some d, some (.ref l), y4, y5] ∧ (S x).cps.all (· < 128) = true ∧ x.length ≤ 1000 ∧ H l = some (LX [] l) ∧ PumpOk p H ∧
  ∀ (ws : List (Nat × Nat)) (y4' : Option V) (H' : Hp) (n' : Nat), Mixed n x ws n' → H' l = some (LX (rawW ws) l) → PumpOk p H' → (∀ a o, H a = some o → a ≠ p → a ≠ l → H' a = some o) → n ≤ n' → D.nx [some (.ref p), some (st x), some d, some (.ref l), y4', y5] H' n'
section
variable {X : Cx}
theorem psk_mix {j : Nat} {p0 p1 p2 p3 p4 p5 p6 p7 p8 p9 p10 p11 p12 p13 p14 p15 : Pos} {k9 : Nat} (DC : Df X.prog X.w X.K X.mg X.base 1 "_law_cup" ["_law_pump_here", "_law_many"] spCup) (hr : Room j X.A) (hj : 1 ≤ j) (G : Gb X.mg) (hpo : PassesOwn (model X.prog X.w) X.A X.env X.xe) (hc : X.calm = true)
    (hNd : X.N.Nodup) (hN0 : X.N[0]? = some ("_law_pump_here" : Str)) (hN1 : X.N[1]? = some ("_law_every" : Str)) (hN3 : X.N[3]? = some ("_law_mixed" : Str)) (hN4 : X.N[4]? = some ("_law_sign" : Str))
    (k0 : X.env.scope.names.lookup ("_law_pump_here" : Str) = some .local) (k1 : X.env.scope.names.lookup ("_law_every" : Str) = some .local) (k3 : X.env.scope.names.lookup ("_law_mixed" : Str) = some .local) (k4 : X.env.scope.names.lookup ("_law_sign" : Str) = some .local)
    (g1 : Gl X "_law_cup") (g2 : Gl X "len") (hline : (p3.endLine == p13.line) = true) (hsw : swapsWith (.Call (.Attribute (.Name "_law_mixed" p2) "insert" p3) [.Call (.Name "_law_cup" p4) [.Name "_law_pump_here" p5, .BinOp (.Call (.Name "len" p6) [.Name "_law_mixed" p7] [] p8) .Add (.Constant (.int 1) k9 p9) p10] [] p11, .Name "_law_sign" p12] [] p13) none p14.line X.env = pure false) :
    PSK X (.For (.Name "_law_sign" p0) (.Name "_law_every" p1) [.Expr (.Call (.Attribute (.Name "_law_mixed" p2) "insert" p3) [.Call (.Name "_law_cup" p4) [.Name "_law_pump_here" p5, .BinOp (.Call (.Name "len" p6) [.Name "_law_mixed" p7] [] p8) .Add (.Constant (.int 1) k9 p9) p10] [] p11, .Name "_law_sign" p12] [] p13) p14] [] p15) tMix := by
  refine ⟨fun pins s σ H D I h => ?_⟩
  obtain ⟨p, l, x, d, y4, y5, rfl, ha, hz, hl, hp, q⟩ := h
  refine wpAny_For (thnT ((pe_var (i := 1) hN1 (.inl k1)).run pins s _ H (fun v H' => v = st x ∧ H' = H) I ⟨_, rfl, rfl, rfl⟩) fun v s1 t1 ⟨y, H1, I1, r1, e1, e2⟩ => ?_) (by intro _; rfl)
  subst e1 e2
  obtain ⟨t, rfl⟩ := r1
  refine wpAny_pyIter_ascii ha ?_
  have hf := I1.hok.fresh (Nat.le_refl s1.heap.objs.size)
  have I2 : Inv X pins [some (.ref p), some (st x), some d, some (.ref l), y4, y5] H1 { s1 with heap := s1.heap.push { cls := .type "str_ascii_iterator", data := .fields #[.str (S x) t, .int 0 0] } } := I1.kept (t' := s1.toks) fun b o e => Heap.get?_push_of_some _ e
  have fp0 : FpOk X pins H1 s1.heap.objs.size := I1.fpOk (Nat.le_refl _) hf
  have st2 : (s1.heap.push { cls := .type "str_ascii_iterator", data := .fields #[.str (S x) t, .int 0 0] }).IsStrIter s1.heap.objs.size "str_ascii_iterator" (S x) t 0 := ⟨_, Heap.get?_push_size _ rfl, rfl, rfl⟩
  generalize s1.heap.objs.size = it at hf fp0 st2 ⊢
  obtain ⟨-, f1, f2, f3, f4, f5⟩ := fp0
  refine codeAny_forLoop_any (fun n s' => ∃ (i : Nat) (H' : Hp) (ws : List (Nat × Nat)) (y4' : Option V), Inv X pins [some (.ref p), some (st x), some d, some (.ref l), y4', y5] H' s' ∧ s'.heap.IsStrIter it "str_ascii_iterator" (S x) t i ∧ H' it = none ∧ n = x.length - i ∧ i ≤ x.length ∧ s.toks ≤ s'.toks ∧ ws.length = i ∧ Mixed s.toks (x.take i) ws s'.toks ∧
    H' l = some (LX (rawW ws) l) ∧ PumpOk p H' ∧ ∀ a o, H1 a = some o → a ≠ p → a ≠ l → H' a = some o) ?_ x.length
    ⟨0, H1, [], y4, I2, st2, hf, rfl, Nat.zero_le _, t1, rfl, ⟨.refl _, .nil, fun _ h => nomatch h⟩, hl, hp, fun a o e _ _ => e⟩
  rintro n s3 ⟨i, H3, ws, y4', I3, st3, n3, rfl, hi, t3, hw, mx, hl3, hp3, fr3⟩
  by_cases hlt : i < x.length
  · have hx : (S x).cps[i]? = some x[i] := by simp [hlt]
    refine wpAny_passesOwn hpo (wpAny_pyNext_ascii_item st3 hx fun h' st' sb => ?_)
    have I4 := I3.turned (t' := s3.toks + 1) (fun b o hb e => (sb.2 b hb).trans e) n3 f1 f3 f4 f5
    obtain ⟨oi, hoi, hci, hdi⟩ := id st'
    refine wpAny_passesOwn hpo (go_of (s := { s3 with heap := h', toks := s3.toks + 1 }) hoi hci hdi (by decide) ?_)
    have I5 := I4.pinned (fp := [it]) (fun b hb => by rw [List.mem_singleton.mp hb]; exact ⟨n3, f1, f2, f3, f4, f5⟩) (fun b hb => by rw [List.mem_singleton.mp hb]; exact ⟨oi, hoi, fun v z => by rw [hdi] at z; cases z⟩)
    refine wpAny_passesOwn hpo (wpAny_assign_Name (store_raw (v := st [x[i]]) I5 hNd hN4 k4 ⟨s3.toks, rfl⟩ fun s6 I6 ⟨m, hn, hm⟩ t6 => ?_))
    refine wpAny_passesOwn hpo (wpAny_execs_cons (thn (mix_body (c := x[i]) (t := s3.toks) DC hr hj G hN0 hN3 k0 k3 k4 g1 g2 hline hsw I6 hn hm rfl rfl hl3 (by simp only [rawW, List.length_map]; omega) hp3) fun f s7 ⟨ef, t7, H7, k, hk, I7, hl7, hp7, fr7⟩ => ?_))
    subst ef
    have pinit := I7.pin (it, oi) (List.mem_append_right _ (List.mem_append_right _ (mem_pinsAt (by simp) hoi)))
    refine wpAny_execs_nil ⟨x.length - (i + 1), by omega, i + 1, H7, ws.take k ++ [(x[i], s3.toks)] ++ ws.drop k, some (st [x[i]]), I7.unpinned, ⟨oi, pinit.1, hci, hdi⟩, pinit.2.1, rfl, hlt, ?_, ?_, ?_, ?_, hp7, fun a o e n1 n2 => fr7 a o (fr3 a o e n1 n2) n1 n2⟩
    · have : s3.toks + 1 ≤ s6.toks := t6
      omega
    · simp only [List.length_append, List.length_take, List.length_drop, List.length_cons, List.length_nil]
      simp only [rawW, List.length_map] at hk
      omega
    · rw [List.take_add_one, List.getElem?_eq_getElem hlt]
      exact mx.step k x[i] t3 (by have : s3.toks + 1 ≤ s6.toks := t6; omega)
    · rw [rawW_mid]; exact hl7
  · have e : i = x.length := by omega
    have hx : (S x).cps[i]? = none := by simp [e]
    refine wpAny_passesOwn hpo (wpAny_pyNext_ascii_end (I.ok.hd hc) st3 hx fun h' eb => ?_)
    have I4 := I3.turned (t' := s3.toks) (fun b o hb e => eb b o hb e) n3 f1 f3 f4 f5
    refine wpAny_passesOwn hpo (wpAny_execs_nil ⟨_, H3, I4, q ws y4' H3 _ ?_ hl3 hp3 fr3 t3⟩)
    rw [e, List.take_length] at mx
    exact mx
end
end Ev
set_option Elab.async false
set_option linter.all false
set_option maxRecDepth 100000
set_option maxHeartbeats 1000000
namespace Ev
open PySem PySem.Spec PyProof.Rows L2 Evl StX LamX NdefX
/-! ### d[..] = a told value -/
def sPutX (P : Program) (w : World) (tv : TEK) (td ty : TE) : TS := fun D σ H => ∀ n, tv σ H n fun u _ H1 _ => td σ H1 fun x H2 => ty σ H2 fun y H3 => ∃ d vs z, x = .ref d ∧ y = .str z ∧ H3 d = some (DX P w vs d) ∧ vs.length ≤ 1000 ∧ D.nx σ (upd H3 d (DX P w (stored vs (.inr z) u) d))
section
variable {X : Cx}
theorem ps_putX {o i value : Expr} {pos pos' : Pos} {tv : TEK} {td ty : TE} (ho : PE X o td) (hi : PE X i ty) (hv : PEK X value tv) (hs : swapsWith value (some (.Subscript o i pos')) pos.line X.env = pure false) :
    PS X (.Assign [.Subscript o i pos'] value pos) (sPutX X.prog X.w tv td ty) := by
  refine ⟨fun pins s σ H D I h => ?_⟩
  refine wpAny_Assign_Subscript (thn (hv.run pins s σ H _ I (h _)) fun r s1 ⟨v, H1, I1, rv, q1⟩ => thn (ho.run pins s1 σ H1 _ I1 q1) fun u s2 ⟨x, H2, I2, rx, q2⟩ => thn (hi.run pins s2 σ H2 _ I2 q2) fun iv s3 ⟨y, H3, I3, ry, d, vs, z, ex, ey, hd, hz, q3⟩ => ?_) hs
  subst ex ey
  obtain rfl : u = Value.ref d := rx
  obtain ⟨h1, dd⟩ := dx_at I3 hd
  refine wpAny_setItem_pairs (k := (.inr z : Key)) (hsz := Nat.le_trans hz (by decide)) (kV_is (k := .inr z) ry) dd fun h' dd' sb => ⟨σ, _, ?_, q3⟩
  have he : ∃ q, h'.get? d = some q := let ⟨q, _, _, hq, _⟩ := dd'; ⟨q, hq⟩
  exact d_write I3 (by rw [hd]; exact True.intro) sb he (dx_ok h1 dd')
end
/-! ### the names' dict as data -/
def vsOf (ks : List Nat) (us : List Value) : List (Key × Value) := (ks.zip us).map fun p => (Sum.inr (S [p.1]), p.2)
theorem key_inj {a b : Nat} : ((Sum.inr (S [a]) : Key) = Sum.inr (S [b])) ↔ a = b := ⟨fun h => by
  have := S_inj (Sum.inr.inj h)
  simpa using this, fun h => by rw [h]⟩
theorem valueAt_vsOf : ∀ {ks : List Nat} {us : List Value} {c : Nat}, ks.length = us.length → c ∈ ks → valueAt (vsOf ks us) (Sum.inr (S [c])) = us[ks.idxOf c]?
  | [], _, _, _, h => nomatch h
  | k :: ks, [], _, e, _ => by cases e
  | k :: ks, u :: us, c, e, h => by
    unfold vsOf valueAt
    rw [List.zip_cons_cons, List.map_cons, List.find?_cons]
    by_cases hk : k = c
    · subst hk
      simp
    · have hne : decide ((Sum.inr (S [k]) : Key) = Sum.inr (S [c])) = false := decide_eq_false fun z => hk (key_inj.mp z)
      dsimp only
      rw [hne, List.idxOf_cons, (beq_eq_false_iff_ne.mpr hk : (k == c) = false), cond_false, List.getElem?_cons_succ]
      have hc : c ∈ ks := by
        rcases List.mem_cons.mp h with z | z
        · exact absurd z.symm hk
        · exact z
      exact valueAt_vsOf (by simpa using e) hc
theorem stored_fresh {ks : List Nat} {us : List Value} {c : Nat} {u : Value} (hl : ks.length = us.length) (hc : c ∉ ks) : stored (vsOf ks us) (Sum.inr (S [c])) u = vsOf (ks ++ [c]) (us ++ [u]) := by
  unfold stored
  have h : (vsOf ks us).any (fun kv => kv.1 = (Sum.inr (S [c]) : Key)) = false := by
    rw [List.any_eq_false]
    intro p hp
    obtain ⟨q, hq, rfl⟩ := List.mem_map.mp hp
    simp only [decide_eq_true_eq]
    intro z
    exact hc (by rw [← key_inj.mp z]; exact (List.of_mem_zip hq).1)
  rw [h, if_neg Bool.false_ne_true]
  unfold vsOf
  rw [List.zip_append hl, List.map_append]
  rfl
structure Nmd (vs : List (Key × Value)) (ρ τ : Nat → Nat) (lo hi : Nat) : Prop where
  val : ∀ c ∈ SG, valueAt vs (Sum.inr (S [c])) = some (.str (S [ρ c]) (τ c))
  ren : Ren ρ
  ti : ∀ c ∈ SG, ∀ d ∈ SG, τ c = τ d → c = d
  tl : ∀ c ∈ SG, lo < τ c ∧ τ c < hi
theorem nd_SG : SG.Nodup := by decide
theorem nmd_of {n0 lo n : Nat} {ws : List (Nat × Nat)} (M : Mixed n0 SG ws n) (h : lo < n0) : Nmd (vsOf SG (rawW ws)) (fun c => (ws.map (·.1)).getD (SG.idxOf c) 0) (fun c => (ws.map (·.2)).getD (SG.idxOf c) 0) lo n := by
  obtain ⟨a, b, d⟩ := M
  have hl : ws.length = SG.length := by simpa using a.length_eq
  have nd1 : (ws.map (·.1)).Nodup := a.nodup_iff.mpr nd_SG
  have ix : ∀ c ∈ SG, SG.idxOf c < ws.length := fun c hc => by rw [hl]; exact List.idxOf_lt_length_iff.mpr hc
  have g1 : ∀ c ∈ SG, ∃ w, w ∈ ws ∧ ws[SG.idxOf c]? = some w := fun c hc => ⟨ws[SG.idxOf c]'(ix c hc), List.getElem_mem _, List.getElem?_eq_getElem _⟩
  have f1 : ∀ {c w}, ws[SG.idxOf c]? = some w → (ws.map (·.1)).getD (SG.idxOf c) 0 = w.1 := fun e => by simp [List.getD, e]
  have f2 : ∀ {c w}, ws[SG.idxOf c]? = some w → (ws.map (·.2)).getD (SG.idxOf c) 0 = w.2 := fun e => by simp [List.getD, e]
  have back : ∀ {c e : Nat}, c ∈ SG → e ∈ SG → SG.idxOf c = SG.idxOf e → c = e := fun {c e} hc he z => by
    have h1 := List.getElem_idxOf (List.idxOf_lt_length_iff.mpr hc)
    have h2 := List.getElem_idxOf (List.idxOf_lt_length_iff.mpr he)
    rw [← h1, ← h2]
    congr 1
  have inj : ∀ (f : Nat × Nat → Nat), (ws.map f).Nodup → ∀ c ∈ SG, ∀ e ∈ SG, ∀ w v, ws[SG.idxOf c]? = some w → ws[SG.idxOf e]? = some v → f w = f v → c = e := fun f nd c hc e he w v h1 h2 z => by
    have e1 : (ws.map f)[SG.idxOf c]? = some (f w) := by rw [List.getElem?_map, h1]; rfl
    have e2 : (ws.map f)[SG.idxOf e]? = some (f w) := by rw [List.getElem?_map, h2, z]; rfl
    have hl1 : SG.idxOf c < (ws.map f).length := by rw [List.length_map]; exact ix c hc
    exact back hc he ((List.getElem?_inj hl1 nd).mp (e1.trans e2.symm))
  refine ⟨fun c hc => ?_, ⟨fun c hc => ?_, fun c hc e he z => ?_, fun c hc => ?_⟩, fun c hc e he z => ?_, fun c hc => ?_⟩
  · obtain ⟨w, _, hw⟩ := g1 c hc
    rw [valueAt_vsOf (by simp [rawW, hl]) hc, f1 hw, f2 hw]
    show (ws.map _)[_]? = _
    rw [List.getElem?_map, hw]; rfl
  · obtain ⟨w, hm, hw⟩ := g1 c hc
    show (ws.map (·.1)).getD (SG.idxOf c) 0 ∈ SG
    rw [f1 hw]
    exact a.mem_iff.mp (List.mem_map.mpr ⟨w, hm, rfl⟩)
  · obtain ⟨w, _, hw⟩ := g1 c hc
    obtain ⟨v, _, hv⟩ := g1 e he
    have z : (ws.map (·.1)).getD (SG.idxOf c) 0 = (ws.map (·.1)).getD (SG.idxOf e) 0 := z
    rw [f1 hw, f1 hv] at z
    exact inj (·.1) nd1 c hc e he w v hw hv z
  · obtain ⟨w, hw, e⟩ := List.mem_map.mp (a.mem_iff.mpr hc)
    obtain ⟨i, hi, hwi⟩ := List.getElem_of_mem hw
    have hi' : i < SG.length := by rw [← hl]; exact hi
    have ei : SG.idxOf SG[i] = i := by
      refine (List.getElem?_inj (l := SG) (List.idxOf_lt_length_iff.mpr (List.getElem_mem hi')) nd_SG).mp ?_
      rw [List.getElem?_eq_getElem (List.idxOf_lt_length_iff.mpr (List.getElem_mem hi')), List.getElem_idxOf, List.getElem?_eq_getElem hi']
    refine ⟨SG[i], List.getElem_mem hi', ?_⟩
    show (ws.map (·.1)).getD (SG.idxOf SG[i]) 0 = c
    rw [f1 (c := SG[i]) (w := w) (by rw [ei, List.getElem?_eq_getElem hi, hwi]), e]
  · obtain ⟨w, _, hw⟩ := g1 c hc
    obtain ⟨v, _, hv⟩ := g1 e he
    have z : (ws.map (·.2)).getD (SG.idxOf c) 0 = (ws.map (·.2)).getD (SG.idxOf e) 0 := z
    rw [f2 hw, f2 hv] at z
    exact inj (·.2) b c hc e he w v hw hv z
  · obtain ⟨w, hm, hw⟩ := g1 c hc
    show lo < (ws.map (·.2)).getD (SG.idxOf c) 0 ∧ (ws.map (·.2)).getD (SG.idxOf c) 0 < n
    rw [f2 hw]
    exact ⟨Nat.lt_of_lt_of_le h (d w hm).1, (d w hm).2⟩
end Ev
set_option Elab.async false
set_option linter.all false
set_option maxRecDepth 100000
set_option maxHeartbeats 1000000
namespace Ev
open PySem PySem.Spec PyProof.Rows L2 Evl StX LamX NdefX
section
variable {P : Program} {w : World} {K : PySem.W.Frag} {mg : Str → Option Value} {base : Heap}
/-! ### _law_names -/
theorem sc_names : FnScope ["_law_pump_here", "_law_every", "_law_names_here", "_law_mixed", "_law_sign", "_law_k"] ["_law_pump_here"] (defScope (top 47)) := ⟨rfl, rfl, rfl, by decide +kernel, rfl, by decide +kernel, by decide +kernel⟩
def spNamesK (P : Program) (w : World) : SpK := fun vs H n Q => ∃ (p : Addr), vs = [.ref p] ∧ PumpOk p H ∧ ∀ d ds ρ τ H' n', H' d = some (DX P w ds d) → Nmd ds ρ τ n n' → Mv p H H' → PumpOk p H' → Q (.ref d) (.ref d) H' n'
theorem sg_sign {i : Nat} (h : i < SG.length) : SG[i] ∉ SG.take i := fun hc => by
  obtain ⟨j, hj, e⟩ := List.getElem_of_mem hc
  rw [List.length_take] at hj
  rw [List.getElem_take] at e
  have := (List.getElem_inj nd_SG).mp e
  omega
theorem ok_namesK (F : At K mg 47 "_law_names") (G : Gb mg) (DC : Df P w K mg base 1 "_law_cup" ["_law_pump_here", "_law_many"] spCup) : DfK P w K mg base 2 "_law_names" ["_law_pump_here"] (spNamesK P w) := by
  refine DfK.made (N := ["_law_pump_here", "_law_every", "_law_names_here", "_law_mixed", "_law_sign", "_law_k"]) F sc_names (fun _ _ _ _ _ _ us hl => match us, hl with | [_], _ => rfl) (fun vs H n Q h => ?_) (fun f cdv A outer s H vs Q hr h => ?_)
  · obtain ⟨p, rfl, _⟩ := h; rfl
  refine ⟨_, psk_cons (psk_par (i := 1) (j := 2) rfl sc_names.nd rfl rfl (by decide) rfl rfl (pak_cons pek_str (pak_cons (pek _ pe_dnewK) pak_nil)) rfl)
    (psk_cons (psk (ps_set (i := 3) sc_names.nd rfl (.inl rfl) (pe_lst pa_nil)))
    (pssk_tag (psk_cons (psk_mix DC hr (by decide) G PassesOwn.never rfl sc_names.nd rfl rfl rfl rfl rfl rfl rfl rfl (by rfl) (by rfl) rfl (by rfl))
    (psk_cons (psk (ps_for PassesOwn.never rfl (pi_range1 (by rfl) G.rng (pa_cons (pe_callB call_len_str (by rfl) G.len bi_len (pa_cons (pv 1) pa_nil)) pa_nil)) (pg_name (i := 5) sc_names.nd rfl (.inl rfl))
      (pss_one (ps_putX (pv 2) (pe_ix ix_str (pv 1) (pv 5) (fun _ _ => rfl)) (pek_ixX (pv 3) (pv 5) (fun _ _ => rfl)) rfl))))
    (psk_one (psk_ret (pek _ (pv 2)))))))), fun n hn => ?_⟩
  obtain ⟨p, rfl, hp, q⟩ := h
  intro t n1 ht1 ht2 d hd u2 n2 hn2 ru
  refine ⟨_, _, rfl, fun n3 hn3 => ?_⟩
  refine ⟨sz_of (n := 0) (Nat.zero_le _), fun l hl n4 hn4 => ?_⟩
  have hdp := pump_ne hp hd
  have hp1 : PumpOk p (upd H d (.dK [])) := hp.upd hdp
  have hlp := pump_ne hp1 hl
  have hld : l ≠ d := fun z => by rw [z, upd_same] at hl; cases hl
  have hl0 : H l = none := by rw [upd_ne hld] at hl; exact hl
  refine ⟨d, l, by rw [upd_ne (Ne.symm hld)]; exact upd_same, upd_same, ?_⟩
  have hp2 := (hp1.upd (o := .lst []) hlp).upd (o := DX P w [] d) hdp
  have hp3 := hp2.upd (o := LX [] l) hlp
  have fr0 : ∀ a o, H a = some o → a ≠ p → upd (upd (upd (upd H d (.dK [])) l (.lst [])) d (DX P w [] d)) l (LX [] l) a = some o := fun a o ha hap => by
    have h1 := ne_of_none ha hl0
    have h2 := ne_of_none ha hd
    rw [upd_ne h1, upd_ne h2, upd_ne h1, upd_ne h2]; exact ha
  refine ⟨p, l, SG, .ref d, none, none, rfl, by decide +kernel, by decide, upd_same, hp3, fun ws y4 H1 n5 mx hl1 hp4 fr1 hn5 => ?_⟩
  have hd1 : H1 d = some (DX P w [] d) := fr1 d _ (by rw [upd_ne (Ne.symm hld)]; exact upd_same) hdp (Ne.symm hld)
  have lw : ws.length = 27 := (by simpa using mx.1.length_eq : ws.length = SG.length)
  have hmv1 : Mv p H H1 := fun a o ha hap => fr1 a o (fr0 a o ha hap) hap (ne_of_none ha hl0)
  unfold tSeqK tKs
  dsimp only
  show iRng1 _ _ _ _
  show tCons _ _ _ _ _
  show tCB _ _ _ _ _
  refine (ev_lenS (σ := [some (.ref p), some (st SG), some (.ref d), some (.ref l), y4, none]) (ta := tVar 1) (l := SG) (ev_var rfl) (by decide)) H1 (Ex.refl H1) _ fun H2 e2 => ⟨_, rfl, by decide, by decide, ?_⟩
  refine for_range (lo := 0) (n := ((SG.length : Nat) : Int).toNat) (fun i σ H' => ∃ y5 : Option V, σ = [some (.ref p), some (st SG), some (.ref d), some (.ref l), y4, y5] ∧ H' d = some (DX P w (vsOf (SG.take i) ((rawW ws).take i)) d) ∧ H' l = some (LX (rawW ws) l) ∧ ∀ a o, H2 a = some o → a ≠ d → H' a = some o)
    ⟨none, rfl, e2 _ _ hd1, e2 _ _ hl1, fun a o h _ => h⟩ (fun i σ' H' hi ⟨y5, hσ, hd', hl', fr⟩ => ?_) (fun σ' H' ⟨y5, hσ, hd', hl', fr⟩ => ?_)
  · subst hσ
    have hi : i < SG.length := hi
    have hiw : i < ws.length := by rw [lw]; exact hi
    intro n6
    refine ⟨.ref l, rfl, .int (0 + (i : Int)), rfl, l, rawW ws, i, .str (S [ws[i].1]) ws[i].2, st [ws[i].1], rfl, by rw [Int.zero_add], hl', by simp [rawW, hiw], Nat.lt_of_lt_of_le hi (by decide), ⟨_, rfl⟩, fun n7 _ => ?_⟩
    refine ⟨.ref d, rfl, ?_⟩
    refine (ev_op (σ := [some (.ref p), some (st SG), some (.ref d), some (.ref l), y4, some (.int (0 + (i : Int)))]) (ta := tVar 1) (tb := tVar 5) (ev_var rfl) (ev_is (ev_var rfl) (by rw [Int.zero_add])) (rv_ixS' (x := SG) (i := i) (c := SG[i]) (by decide) (List.getElem?_eq_getElem hi))) H' (Ex.refl H') _ fun H3 e3 => ?_
    refine ⟨d, _, _, rfl, rfl, e3 _ _ hd', ?_, ?_⟩
    · simp only [vsOf, List.length_map, List.length_zip, List.length_take]
      have : SG.length = 27 := by decide
      omega
    · have e1 : stored (vsOf (SG.take i) ((rawW ws).take i)) (Sum.inr (S [SG[i]])) (.str (S [ws[i].1]) ws[i].2) = vsOf (SG.take (i + 1)) ((rawW ws).take (i + 1)) := by
        rw [stored_fresh (by simp only [rawW, List.length_take, List.length_map, lw]; rfl) (sg_sign hi)]
        rw [List.take_add_one, List.take_add_one, List.getElem?_eq_getElem hi]
        simp [rawW, hiw]
      refine ⟨some (.int (0 + (i : Int))), rfl, ?_, ?_, fun a o h hne => ?_⟩
      · rw [upd_same]
        exact congrArg (fun v => some (DX P w v d)) e1
      · rw [upd_ne hld]; exact e3 _ _ hl'
      · rw [upd_ne hne]; exact e3 _ _ (fr a o h hne)
  · subst hσ
    have hd2 : H' d = some (DX P w (vsOf SG (rawW ws)) d) := by
      have e1 : SG.take ((SG.length : Nat) : Int).toNat = SG := by rw [Int.toNat_natCast, List.take_length]
      have e2 : (rawW ws).take ((SG.length : Nat) : Int).toNat = rawW ws := by
        rw [Int.toNat_natCast]
        exact List.take_of_length_le (by simp [rawW, lw]; decide)
      rw [e1, e2] at hd'
      exact hd'
    intro n7 hn7
    refine ⟨_, rfl, fun u n8 hn8 ru => ?_⟩
    obtain rfl : u = Value.ref d := ru
    have mx' : Mixed n4 SG ws n8 := ⟨mx.1, mx.2.1, fun v hv => ⟨(mx.2.2 v hv).1, Nat.lt_of_lt_of_le (mx.2.2 v hv).2 (Nat.le_trans hn7 hn8)⟩⟩
    refine q d _ _ _ H' n8 hd2 (nmd_of mx' ?_) (fun a o ha hap => fr a o (e2 a o (hmv1 a o ha hap)) (ne_of_none ha hd)) ?_
    · have : s.toks < n1 := Nat.lt_of_le_of_lt (Nat.le_trans hn ht1) ht2
      omega
    · obtain ⟨m, m1, m2⟩ := hp4.ex e2
      exact ⟨m, m1, fr p _ m2 (Ne.symm hdp)⟩
end
end Ev
set_option Elab.async false
set_option linter.all false
set_option maxRecDepth 100000
set_option maxHeartbeats 1000000
namespace Ev
open PySem PySem.Spec PyProof.Rows L2 Evl StX LamX NdefX
theorem Ex.upd_new {H H' : Hp} {D : Addr} {o : HO} (e : Ex H H') (h : H D = none) : Ex H (upd H' D o) := fun a u ha => by
  rw [upd_ne (ne_of_none ha h)]; exact e a u ha
section
variable {P : Program} {w : World} {K : PySem.W.Frag} {mg : Str → Option Value} {base : Heap}
/-! ### _law_turned -/
theorem sc_turned : FnScope ["_law_names_here", "_law_line_it", "_law_sign"] ["_law_names_here", "_law_line_it"] (defScope (top 48)) := ⟨rfl, rfl, rfl, by decide +kernel, rfl, by decide +kernel, by decide +kernel⟩
/-- the token of a turned text -/
def TkT (τ : Nat → Nat) (x : Tx) (n t n' : Nat) : Prop := (∃ c, x = [c] ∧ t = τ c) ∨ (x.length ≠ 1 ∧ n ≤ t ∧ t < n')
def spTurnedK (P : Program) (w : World) : SpK := fun vs H n Q => ∃ (d : Addr) (ds : List (Key × Value)) (ρ τ : Nat → Nat) (lo hi : Nat) (x : Tx), vs = [.ref d, st x] ∧ H d = some (DX P w ds d) ∧ Nmd ds ρ τ lo hi ∧ AllSg x ∧ x.length ≤ 40000 ∧
  ∀ (t : Tok) H' n', Ex H H' → TkT τ x n t n' → n ≤ n' → Q (.str (S (x.map ρ)) t) (st (x.map ρ)) H' n'
theorem ok_turnedK (F : At K mg 48 "_law_turned") (G : Gb mg) : DfK P w K mg base 1 "_law_turned" ["_law_names_here", "_law_line_it"] (spTurnedK P w) := by
  refine DfK.made (N := ["_law_names_here", "_law_line_it", "_law_sign"]) F sc_turned (fun _ _ _ _ _ _ us hl => match us, hl with | [_, _], _ => rfl) (fun vs H n Q h => ?_) (fun f cdv A outer s H vs Q hr h => ?_)
  · obtain ⟨d, ds, ρ, τ, lo, hi, x, rfl, _⟩ := h; rfl
  refine ⟨_, psk_one (psk_ret (pek_join pe_str (pek_lc (own := [("_law_sign", 2)]) (g := gName 2) (te := tGetX P w (tVar 0) (tVar 2)) rfl sc_turned.nd (pi_str (pv 1)) (blkOk_by (own := [("_law_sign", 2)]) (N := ["_law_names_here", "_law_line_it", "_law_sign"]) (sc := defScope (top 48)) (by decide +kernel))
        (fun _ _ _ _ _ => pg_name (i := 2) sc_turned.nd rfl (.inl rfl))
        (fun _ _ _ _ _ => pek_getX (pv 0) (pv 2) (fun _ _ => rfl))))), fun n hn => ?_⟩
  obtain ⟨d, ds, ρ, τ, lo, hi, x, rfl, hd, nm, hx, hz, q⟩ := h
  intro n1 hn1
  refine ⟨st x, rfl, S x, rfl, fun D n2 nD hn2 => ?_⟩
  have hsz : (S x).cps.size = x.length := by simp
  have hdD : d ≠ D := ne_of_none hd nD
  refine lcK_it (walk_str (z := S x)) (fun i H' n' acc => Ex H H' ∧ s.toks ≤ n' ∧ acc = (x.take i).map fun c => .str (S [ρ c]) (τ c)) (fun o => ⟨Ex.upd_new (Ex.refl H) nD, Nat.le_trans hn (Nat.le_trans hn1 hn2), rfl⟩) (fun _ _ _ _ _ _ => trivial) (fun i y H2 H' n4 acc hi pv lk hy => ?_) (fun H2 n4 n5 acc pv lk h45 => ?_)
  · obtain ⟨rfl, c, hc, rfl⟩ := hy
    obtain ⟨e1, t1, rfl⟩ := pv
    rw [hsz] at hi
    have hc' : x[i]? = some c := by simpa using hc
    have hcx : c ∈ x := List.mem_of_getElem? hc'
    refine ⟨rfl, fun n5 h5 => ?_⟩
    refine ⟨.ref d, rfl, st [c], rfl, d, ds, S [c], .str (S [ρ c]) (τ c), st [ρ c], rfl, rfl, e1 _ _ hd, nm.val c (hx c hcx), ⟨_, rfl⟩, fun n6 h6 => ⟨rfl, ?_, fun o => ⟨Ex.upd_new e1 nD, Nat.le_trans t1 (Nat.le_trans h5 h6), ?_⟩⟩⟩
    · rw [List.length_map, List.length_take]; omega
    · rw [List.take_add_one, hc']
      simp
  · obtain ⟨e1, t1, rfl⟩ := pv
    rw [hsz, List.take_length] at lk
    have hraw : (x.map fun c => Value.str (S [ρ c]) (τ c)) = strValues (x.map fun c => (S [ρ c], τ c)) := by simp [strValues]
    rw [hraw] at lk
    have htx : (x.map fun c => (S [ρ c], τ c)).map (·.1) = (x.map fun c => [ρ c]).map S := by simp
    have hfl : (x.map fun c => [ρ c]).flatten = x.map ρ := by
      clear lk hraw htx hx hz hsz hn q
      induction x with
      | nil => rfl
      | cons c x ih => simp [ih]
    refine ⟨D, x.map fun c => (S [ρ c], τ c), rfl, lk, ?_, ?_, ?_⟩
    · rw [htx, sum_le, hfl, List.length_map]
      exact Nat.le_trans hz (by decide)
    · intro z hz' n6 h6
      obtain ⟨c, rfl⟩ : ∃ c, x = [c] := by
        match x, hz' with
        | [c], _ => exact ⟨c, rfl⟩
      have hz2 : (S [ρ c], τ c) = z := by simpa using hz'
      subst hz2
      exact q _ _ n6 e1 (.inl ⟨c, rfl, rfl⟩) (Nat.le_trans t1 (Nat.le_trans h45 h6))
    · intro hne t n6 ht1 ht2
      rw [htx]
      have ee : Txt.join Str.empty ((x.map fun c => [ρ c]).map S) = S (x.map ρ) := by
        rw [← hfl]
        exact join_S _
      rw [ee]
      have ht3 := Nat.le_trans t1 (Nat.le_trans h45 ht1)
      exact q t _ n6 e1 (.inr ⟨by simpa using hne, ht3, ht2⟩) (Nat.le_of_lt (Nat.lt_of_le_of_lt ht3 ht2))
/-- the same without the token -/
def spTurned (P : Program) (w : World) : Sp := fun vs H Q _ => ∃ (d : Addr) (ds : List (Key × Value)) (ρ τ : Nat → Nat) (lo hi : Nat) (x : Tx), vs = [.ref d, st x] ∧ H d = some (DX P w ds d) ∧ Nmd ds ρ τ lo hi ∧ AllSg x ∧ x.length ≤ 40000 ∧
  ∀ H', Ex H H' → Q (st (x.map ρ)) H'
section
variable {σ : L2.St} {H : Hp} {ta tb : TE}
theorem ev_turned {d : Addr} {ds : List (Key × Value)} {ρ τ : Nat → Nat} {lo hi : Nat} {x : Tx} (ha : Ev ta σ H (.ref d)) (hb : Ev tb σ H (st x)) (hd : H d = some (DX P w ds d)) (nm : Nmd ds ρ τ lo hi) (hx : AllSg x) (hz : x.length ≤ 40000) :
    Ev (fun σ H Q => ∀ n, tCallK (spTurnedK P w) (tCons ta (tCons tb tNil)) σ H n fun _ v H' _ => Q v H') σ H (st (x.map ρ)) := fun H1 e Q q n =>
  ha H1 e _ fun H2 e2 => hb H2 (e.trans e2) _ fun H3 e3 n' _ => ⟨d, ds, ρ, τ, lo, hi, x, rfl, (e.trans (e2.trans e3)) _ _ hd, nm, hx, hz, fun _ H' _ e4 _ _ => q H' ((e2.trans e3).trans e4)⟩
end
end
end Ev
set_option Elab.async false
set_option linter.all false
set_option maxRecDepth 100000
set_option maxHeartbeats 1000000
namespace Ev
open PySem PySem.Spec PyProof.Rows L2 Evl StX LamX NdefX
section
variable {P : Program} {w : World} {K : PySem.W.Frag} {mg : Str → Option Value} {base : Heap}
/-! ### names[sign], in the plain layer -/
def tGetA (P : Program) (w : World) (ta tb : TE) : TE := fun σ H Q => ∀ n, tGetX P w ta tb σ H n fun _ v H' _ => Q v H'
theorem pe_getA {X : Cx} {a b : Expr} {ta tb : TE} {pos : Pos} (ha : PE X a ta) (hb : PE X b tb) (hs : NoSl b) : PE X (.Subscript a b pos) (tGetA X.prog X.w ta tb) := pe_told (pek_getX ha hb hs)
section
variable {σ : L2.St} {H : Hp} {ta tb te tl : TE}
theorem ev_getA {d : Addr} {ds : List (Key × Value)} {ρ τ : Nat → Nat} {lo hi c : Nat} (ha : Ev ta σ H (.ref d)) (hb : Ev tb σ H (st [c])) (hd : H d = some (DX P w ds d)) (nm : Nmd ds ρ τ lo hi) (hc : c ∈ SG) : Ev (tGetA P w ta tb) σ H (st [ρ c]) := fun H1 e Q q n =>
  ha H1 e _ fun H2 e2 => hb H2 (e.trans e2) _ fun H3 e3 => ⟨d, ds, S [c], .str (S [ρ c]) (τ c), st [ρ c], rfl, rfl, (e.trans (e2.trans e3)) _ _ hd, nm.val c hc, ⟨_, rfl⟩, fun _ _ => q H3 (e2.trans e3)⟩
/-- [.. for x, y in pairs], each item a new pair -/
theorem ep_pairs {f : Nat × Nat → Nat × Nat} {i j : Nat} {vs : List Nat} {a : Addr} {ws : List V} {ps : List (Nat × Nat)} (h : Ev tl σ H (.ref a)) (hA : Rd H a (.lst ws)) (hp : Paired (PairV H) ws ps) (hl : ps.length ≤ 1000) (hw : ∀ x y, wipe (((wipe σ vs).set i (some x)).set j (some y)) vs = wipe σ vs)
    (he : ∀ pr H1, pr ∈ ps → Ex H H1 → EvP te (((wipe σ vs).set i (some (st [pr.1]))).set j (some (st [pr.2]))) H1 fun H v => PairV H v (f pr)) :
    EvP (tLc (iList K tl) (g2 K i j) tYes te vs) σ H (fun H' v => LsR PairV (ps.map f) H' v ∧ ∀ l, v = .ref l → H l = none) := fun H0 e0 Q q => h H0 e0 _ fun H1 e01 => by
  have e := e0.trans e01
  have hA := ex_rd e hA
  have hp := L2.Paired.mapP hp fun x y z => PairV.mono e z
  have hlen := paired_len hp
  refine ⟨a, rfl, ⟨ws, rd_l hA⟩, fun D nD => ?_⟩
  have ndl : ∀ {b : Addr} {u : HO}, Rd H1 b u → b ≠ D := fun {b u} hb z => by rcases hb with hb | ⟨o, hb⟩ <;> rw [z, nD] at hb <;> cases hb
  refine lc_it (walk_list (a := a) (xs := ws)) (fun n H' => Ex H1 H' ∧ ∃ us, H' D = some (.lst us) ∧ Paired (PairV H') us ((ps.take n).map f)) ⟨Ex.new nD, [], upd_same, .nil⟩ (fun n H' _ z => rd_l (ex_rd z.1 hA)) (fun n x H' H'' hn ⟨e1, us, hD, hus⟩ hy => ?_) (fun H' ⟨e1, us, hD, hus⟩ => ?_)
  · obtain ⟨eH, hx⟩ := hy
    have eH := eH.symm
    subst eH
    obtain ⟨pr, hpr, T, rfl, hT⟩ := paired_get hp hx
    have hT1 := ex_rd e1 hT
    refine ⟨T, [st [pr.1], st [pr.2]], rfl, rd_t hT1, rfl, _, _, rfl, _, _, rfl, rfl, hw _ _, ?_⟩
    unfold tYes
    dsimp only
    rw [if_pos (rfl : true = true)]
    refine he pr H' (List.mem_of_getElem? hpr) (e.trans e1) H' (Ex.refl H') _ fun v H4 e4 hv => ⟨us, e4 _ _ hD, ?_, Ex.upd_new (e1.trans e4) nD, us ++ [v], upd_same, ?_⟩
    · have := paired_len hus
      rw [List.length_map, List.length_take] at this
      exact Nat.lt_of_le_of_lt (show us.length ≤ 1000 by omega) (by decide)
    · have hD4 := e4 _ _ hD
      have keep : ∀ {b : Addr} {xs : List V}, Rd H4 b (.tup xs) → Rd (upd H4 D (.lst (us ++ [v]))) b (.tup xs) := fun {b xs} hb => by
        have n1 : b ≠ D := fun z => by rcases hb with hb | ⟨o, hb⟩ <;> rw [z, hD4] at hb <;> cases hb
        rcases hb with hb | ⟨o, hb⟩
        · exact .inl (by rw [upd_ne n1]; exact hb)
        · exact .inr ⟨o, by rw [upd_ne n1]; exact hb⟩
      rw [List.take_add_one, hpr, List.map_append]
      exact paired_app (L2.Paired.mapP hus fun x y z => let ⟨b, g1, g2⟩ := z.mono e4; ⟨b, g1, keep g2⟩) (.cons (let ⟨b, g1, g2⟩ := hv; ⟨b, g1, keep g2⟩) .nil)
  · rw [hlen, List.take_length] at hus
    exact q (.ref D) H' (e01.trans e1) ⟨⟨D, us, rfl, hD, hus⟩, fun l z => by cases z; exact fresh_back e nD⟩
end
/-! ### _law_turned_order -/
theorem s_retP {te : TE} {D : Ends} {σ : L2.St} {H : Hp} {R : Hp → V → Prop} (h : EvP te σ H R) (k : ∀ v H1, Ex H H1 → R H1 v → D.rt v H1) : tRet te D σ H := h H (Ex.refl H) _ k
theorem OdV.upd {H : Hp} {v : V} {o : Od} {D : Addr} {u : HO} (h : OdV H v o) (hD : ∀ xs, ¬ Rd H D (.tup xs)) (nl : ∀ a l, v = .ref a → Rd H a (.tup [.str "letters", .ref l]) → l ≠ D) : OdV (L2.upd H D u) v o := by
  have keep : ∀ {b : Addr} {w : HO}, Rd H b w → b ≠ D → Rd (L2.upd H D u) b w := fun {b w} hb n => by
    rcases hb with hb | ⟨o, hb⟩
    · exact .inl (by rw [upd_ne n]; exact hb)
    · exact .inr ⟨o, by rw [upd_ne n]; exact hb⟩
  have nt : ∀ {b xs}, Rd H b (.tup xs) → b ≠ D := fun hb z => hD _ (z ▸ hb)
  cases o with
  | letters ps => exact let ⟨a, l, vs, h1, h2, h3, h4⟩ := h; ⟨a, l, vs, h1, keep h2 (nt h2), keep h3 (nl a l h1 h2), L2.Paired.mapP h4 fun _ _ z => let ⟨b, g1, g2⟩ := z; ⟨b, g1, keep g2 (nt g2)⟩⟩
  | _ => exact let ⟨a, h1, h2⟩ := h; ⟨a, h1, keep h2 (nt h2)⟩
theorem TokV.upd {H : Hp} {v : V} {o : Od} {D : Addr} {u : HO} (h : TokV H v o) (hD : ∀ xs, ¬ Rd H D (.tup xs)) : TokV (L2.upd H D u) v o := by
  cases o with
  | rep x y => exact let ⟨a, ob, kk, t0, t1, t2, h1, h2, h3⟩ := h; ⟨a, ob, kk, t0, t1, t2, h1, by rw [upd_ne (fun z => hD [.str "replace", st x, st y] (.inr ⟨ob, by rw [← z]; exact h2⟩))]; exact h2, h3⟩
  | _ => trivial
theorem tkT_ne {τ : Nat → Nat} {ds : List (Key × Value)} {ρ : Nat → Nat} {lo hi n0 t n1 : Nat} {x : Tx} (nm : Nmd ds ρ τ lo hi) (hx : AllSg x) (h : TkT τ x n0 t n1) (hn : hi < n0) : t ≠ 0 := by
  rcases h with ⟨c, rfl, rfl⟩ | ⟨_, h, _⟩
  · have := (nm.tl c (hx c List.mem_cons_self)).1
    omega
  · omega
theorem tkT_two {τ : Nat → Nat} {ds : List (Key × Value)} {ρ : Nat → Nat} {lo hi n0 n1 n2 n3 t t' : Nat} {x y : Tx} (nm : Nmd ds ρ τ lo hi) (hx : AllSg x) (hy : AllSg y) (h : TkT τ x n0 t n1) (h' : TkT τ y n2 t' n3) (hn : hi < n0) (h01 : n0 ≤ n2) (h12 : n1 ≤ n2) (e : t = t') : x.map ρ = y.map ρ := by
  rcases h with ⟨c, rfl, rfl⟩ | ⟨_, h1, h2⟩ <;> rcases h' with ⟨d, rfl, rfl⟩ | ⟨_, k1, k2⟩
  · rw [nm.ti c (hx c List.mem_cons_self) d (hy d List.mem_cons_self) e]
  · have := (nm.tl c (hx c List.mem_cons_self)).2
    omega
  · have := (nm.tl d (hy d List.mem_cons_self)).2
    omega
  · omega
theorem sc_torder : FnScope ["_law_names_here", "_law_order_here", "_law_one_it", "_law_other_it"] ["_law_names_here", "_law_order_here"] (defScope (top 49)) := ⟨rfl, rfl, rfl, by decide +kernel, rfl, by decide +kernel, by decide +kernel⟩
def spTOrderK (P : Program) (w : World) : SpK := fun vs H n Q => ∃ (d : Addr) (ds : List (Key × Value)) (ρ τ : Nat → Nat) (lo hi : Nat) (v : V) (o : Od), vs = [.ref d, v] ∧ H d = some (DX P w ds d) ∧ Nmd ds ρ τ lo hi ∧ hi ≤ n ∧ OdV H v o ∧ OkO o ∧ AllSg (namedM o) ∧
  ∀ u v' H' n', Ex H H' → OdV H' v' (mapO ρ o) → TokV H' v' (mapO ρ o) → NL H H' v' → n ≤ n' → RelV v' u → Q u v' H' n'
theorem ok_torder (F : At K mg 49 "_law_turned_order") (G : Gb mg) (DT : DfK P w K mg base 1 "_law_turned" ["_law_names_here", "_law_line_it"] (spTurnedK P w)) : DfK P w K mg base 2 "_law_turned_order" ["_law_names_here", "_law_order_here"] (spTOrderK P w) := by
  refine DfK.made (N := ["_law_names_here", "_law_order_here", "_law_one_it", "_law_other_it"]) F sc_torder (fun _ _ _ _ _ _ us hl => match us, hl with | [_, _], _ => rfl) (fun vs H n Q h => ?_) (fun f cdv A outer s H vs Q hr h => ?_)
  · obtain ⟨d, ds, ρ, τ, lo, hi, v, o, rfl, _⟩ := h; rfl
  refine ⟨_, psk_cons (psk (ps_if (pt_cmpR op_eq (pe_ix ix_tup (pv 1) pe_int (fun _ _ => rfl)) pe_str (nomark _)) (pss_one (ps_ret (pe_tup (pa_cons pe_str (pa_cons
      (pe_lc (own := [("_law_one_it", 2), ("_law_other_it", 3)]) (g := g2 K 2 3) (tt := tYes) (te := tTup (tCons (tGetA P w (tVar 0) (tVar 2)) (tCons (tGetA P w (tVar 0) (tVar 3)) tNil))) rfl sc_torder.nd (pi_list (pe_ix ix_tup (pv 1) pe_int (fun _ _ => rfl))) (blkOk_by (own := [("_law_one_it", 2), ("_law_other_it", 3)]) (N := ["_law_names_here", "_law_order_here", "_law_one_it", "_law_other_it"]) (sc := defScope (top 49)) (by decide +kernel))
          (fun _ _ _ _ _ => pg_tup rfl (pgs_cons (pg_name (i := 2) sc_torder.nd rfl (.inl rfl)) (pgs_cons (pg_name (i := 3) sc_torder.nd rfl (.inl rfl)) pgs_nil))) (fun _ _ _ _ _ => pts_nil) (fun _ _ _ _ _ => pe_tup (pa_cons (pe_getA (pv 0) (pv 2) (fun _ _ => rfl)) (pa_cons (pe_getA (pv 0) (pv 3) (fun _ _ => rfl)) pa_nil)))) pa_nil))))) pss_nil))
    (psk_cons (psk_if (pt_cmpR op_eq (pe_ix ix_tup (pv 1) pe_int (fun _ _ => rfl)) pe_str (nomark _)) (psk_one (psk_ret (pek_rep
        (pek_df DT hr (by decide) (by rfl) (pa_cons (pv 0) (pa_cons (pe_ix ix_tup (pv 1) pe_int (fun _ _ => rfl)) pa_nil))) (pek_df DT hr (by decide) (by rfl) (pa_cons (pv 0) (pa_cons (pe_ix ix_tup (pv 1) pe_int (fun _ _ => rfl)) pa_nil)))))) (pssk pss_nil))
    (psk_one (psk_ret (pek _ (pe_ifExp (pt_val (pe_isi (pe_ix ix_tup (pv 1) pe_int (fun _ _ => rfl)) (by rfl) G.isi (by rfl) G.str bi_str))
      (pe_tup (pa_cons (pe_ix ix_tup (pv 1) pe_int (fun _ _ => rfl)) (pa_cons (pe_told (pek_df DT hr (by decide) (by rfl) (pa_cons (pv 0) (pa_cons (pe_ix ix_tup (pv 1) pe_int (fun _ _ => rfl)) pa_nil)))) pa_nil))) (pv 1)))))), fun n hn => ?_⟩
  obtain ⟨d, ds, ρ, τ, lo, hi, v, o, rfl, hd, nm, hhi, ho, hok, hsg, q⟩ := h
  obtain ⟨a, xs, rfl, ha, hx0, -⟩ := ho.head
  unfold tSeqK tKs
  dsimp only
  refine s_when (b := decide ((.str (nameO o) : V) = .str "letters")) (et_test (ev_op (ev_ixT (i := 0) (ev_var rfl) ev_c ha hx0) ev_c (rv_eq rfl))) (fun hb H1 e1 => ?_) fun hb H1 e1 => ?_
  · obtain ⟨ps, rfl⟩ : ∃ ps, o = .letters ps := by
      have hname : nameO o = "letters" := V.str.inj (of_decide_eq_true hb)
      cases o with
      | letters ps => exact ⟨ps, rfl⟩
      | _ => all_goals (simp only [nameO] at hname; exact absurd hname (by decide +kernel))
    obtain ⟨a', l, ws, ea, ha', hl, hp⟩ := ho
    cases ea
    refine s_retP (R := fun H' v => OdV H' v (mapO ρ (.letters ps)) ∧ NL H H' v) (ep_tupR ev_c (ep_pairs (f := fun pr => (ρ pr.1, ρ pr.2)) (ev_ixT (i := 1) (ev_var rfl) ev_c (ex_rd e1 ha') rfl) (ex_rd e1 hl) (L2.Paired.mapP hp fun x y z => z.mono e1) (Nat.le_trans hok.2 (by decide)) (fun _ _ => rfl)
        (fun pr H2 hpr e2 => ep_pair (ev_getA (ev_var rfl) (ev_var rfl) (e2 _ _ (e1 _ _ hd)) nm (hsg pr.1 ?_)) (ev_getA (ev_var rfl) (ev_var rfl) (e2 _ _ (e1 _ _ hd)) nm (hsg pr.2 ?_)))) (fun G G' v e z => ⟨LsR.mono mo_pair _ _ _ _ e z.1, z.2⟩) (fun b y G hb z => ?_)) fun v H2 e2 hv u n1 hn1 ru => q u v H2 n1 (e1.trans e2) hv.1 trivial hv.2 (Nat.le_trans hn hn1) ru
    · exact List.mem_flatMap.mpr ⟨pr, hpr, by simp⟩
    · exact List.mem_flatMap.mpr ⟨pr, hpr, by simp⟩
    · obtain ⟨⟨l2, us, rfl, g1, g2⟩, g3⟩ := z
      refine ⟨⟨b, l2, us, rfl, .inl hb, .inl g1, g2⟩, fun b' l3 eb g => ?_⟩
      cases eb
      rcases g with g | ⟨_, g⟩ <;> rw [hb] at g <;> cases g
      exact fresh_back e1 (g3 _ rfl)
  intro n1 hn1
  unfold tIfK
  dsimp only
  have hnl : nameO o ≠ "letters" := fun z => of_decide_eq_false hb (congrArg V.str z)
  refine (et_test (b := decide ((.str (nameO o) : V) = .str "replace")) (ev_op (ev_ixT (i := 0) (ev_var rfl) ev_c (ex_rd e1 ha) hx0) ev_c (rv_eq rfl))) H1 (Ex.refl H1) _ fun H2 e2 n2 hn2 => ?_
  have e02 := e1.trans e2
  have hn02 := Nat.le_trans hn (Nat.le_trans hn1 hn2)
  by_cases hr2 : nameO o = "replace"
  · rw [if_pos (decide_eq_true (congrArg V.str hr2))]
    obtain ⟨x, y, rfl⟩ : ∃ x y, o = .rep x y := by
      cases o with
      | rep x y => exact ⟨x, y, rfl⟩
      | _ => all_goals (simp only [nameO] at hr2; exact absurd hr2 (by decide +kernel))
    obtain ⟨b, eb, hb⟩ := ho
    cases eb
    intro n0 hn0
    have sgx : AllSg x := fun c hc => hsg c (List.mem_append_left _ hc)
    have sgy : AllSg y := fun c hc => hsg c (List.mem_append_right _ hc)
    refine ⟨.ref d, rfl, (ev_ixT (σ := [some (.ref d), some (.ref a), none, none]) (ta := tVar 1) (tb := tC (.int 1)) (i := 1) (v := st x) (ev_var rfl) ev_c (ex_rd e02 hb) rfl) H2 (Ex.refl H2) _ fun H3 e3 n3 hn3 => ⟨d, ds, ρ, τ, lo, hi, x, rfl, e3 _ _ (e02 _ _ hd), nm, sgx, Nat.le_trans hok.2.1 (by decide), fun t H4 n4 e4 tk hn4 => ?_⟩⟩
    refine ⟨.ref d, rfl, (ev_ixT (σ := [some (.ref d), some (.ref a), none, none]) (ta := tVar 1) (tb := tC (.int 2)) (i := 2) (v := st y) (ev_var rfl) ev_c (ex_rd ((e02.trans e3).trans e4) hb) rfl) H4 (Ex.refl H4) _ fun H5 e5 n5 hn5 => ⟨d, ds, ρ, τ, lo, hi, y, rfl, e5 _ _ (e4 _ _ (e3 _ _ (e02 _ _ hd))), nm, sgy, Nat.le_trans hok.2.2 (by decide), fun t' H6 n6 e6 tk' hn6 => ?_⟩⟩
    refine ⟨x.map ρ, y.map ρ, t, t', rfl, rfl, rfl, rfl, tkT_ne nm sgx tk (by omega), tkT_ne nm sgy tk' (by omega), tkT_two nm sgx sgy tk tk' (by omega) (by omega) hn5, fun T ob hT tkv => ?_⟩
    have e06 := (((e02.trans e3).trans e4).trans e5).trans e6
    refine q _ _ _ n6 (e06.trans (Ex.new hT)) ⟨T, rfl, .inr ⟨ob, upd_same⟩⟩ tkv (nl_frz upd_same (by simp)) (by omega) rfl
  · rw [if_neg (by rw [decide_eq_true_eq]; exact fun z => hr2 (V.str.inj z))]
    intro n3 hn3
    have hn03 := Nat.le_trans hn02 hn3
    have ha2 := ex_rd e02 ha
    cases o with
    | letters ps => exact absurd rfl hnl
    | rep x y => exact absurd rfl hr2
    | front x =>
      obtain ⟨b, eb, hb⟩ := ho
      cases eb
      refine (et_B (b := true) (ev_isi (ty := "str") (ev_ixT (i := 1) (v := st x) (ev_var rfl) ev_c (ex_rd e02 hb) rfl) (fun H1 e => .base (.str _)) (by decide +kernel))) H2 (Ex.refl H2) _ fun H3 e3 => ?_
      show (if (true : Bool) = true then _ else _ : Prop)
      rw [if_pos rfl]
      refine (ep_tup2 (R := fun H' v => OdV H' v (.front (x.map ρ)) ∧ NL H H' v) (ev_ixT (i := 0) (v := .str "front") (ev_var rfl) ev_c (ex_rd (e02.trans e3) hb) rfl) (ev_turned (ev_var rfl) (ev_ixT (i := 1) (ev_var rfl) ev_c (ex_rd (e02.trans e3) hb) rfl) (e3 _ _ (e02 _ _ hd)) nm hsg (Nat.le_trans hok (by decide))) (fun b G hb => ⟨⟨b, rfl, .inl hb⟩, nl_tup hb (by simp)⟩)) H3 (Ex.refl H3) _ fun v H4 e4 hv u n4 hn4 ru => q u v H4 n4 ((e02.trans e3).trans e4) hv.1 trivial hv.2 (by omega) ru
    | back x =>
      obtain ⟨b, eb, hb⟩ := ho
      cases eb
      refine (et_B (b := true) (ev_isi (ty := "str") (ev_ixT (i := 1) (v := st x) (ev_var rfl) ev_c (ex_rd e02 hb) rfl) (fun H1 e => .base (.str _)) (by decide +kernel))) H2 (Ex.refl H2) _ fun H3 e3 => ?_
      show (if (true : Bool) = true then _ else _ : Prop)
      rw [if_pos rfl]
      refine (ep_tup2 (R := fun H' v => OdV H' v (.back (x.map ρ)) ∧ NL H H' v) (ev_ixT (i := 0) (v := .str "back") (ev_var rfl) ev_c (ex_rd (e02.trans e3) hb) rfl) (ev_turned (ev_var rfl) (ev_ixT (i := 1) (ev_var rfl) ev_c (ex_rd (e02.trans e3) hb) rfl) (e3 _ _ (e02 _ _ hd)) nm hsg (Nat.le_trans hok (by decide))) (fun b G hb => ⟨⟨b, rfl, .inl hb⟩, nl_tup hb (by simp)⟩)) H3 (Ex.refl H3) _ fun v H4 e4 hv u n4 hn4 ru => q u v H4 n4 ((e02.trans e3).trans e4) hv.1 trivial hv.2 (by omega) ru
    | first k =>
      obtain ⟨b, eb, hb⟩ := ho
      cases eb
      refine (et_B (b := false) (ev_isi (ty := "int") (ev_ixT (i := 1) (v := .int k) (ev_var rfl) ev_c (ex_rd e02 hb) rfl) (fun H1 e => .base (.int _)) (by decide +kernel))) H2 (Ex.refl H2) _ fun H3 e3 => ?_
      show (if (false : Bool) = true then _ else _ : Prop)
      rw [if_neg Bool.false_ne_true]
      refine ⟨_, rfl, fun u n4 hn4 ru => q u _ H3 n4 (e02.trans e3) ⟨a, rfl, ex_rd (e02.trans e3) hb⟩ trivial (fun c l z g => ?_) (by omega) ru⟩
      cases z
      have hb3 := ex_rd (e02.trans e3) hb
      rcases g with g | ⟨_, g⟩ <;> rcases hb3 with hb3 | ⟨_, hb3⟩ <;> rw [hb3] at g <;> cases g
    | last k =>
      obtain ⟨b, eb, hb⟩ := ho
      cases eb
      refine (et_B (b := false) (ev_isi (ty := "int") (ev_ixT (i := 1) (v := .int k) (ev_var rfl) ev_c (ex_rd e02 hb) rfl) (fun H1 e => .base (.int _)) (by decide +kernel))) H2 (Ex.refl H2) _ fun H3 e3 => ?_
      show (if (false : Bool) = true then _ else _ : Prop)
      rw [if_neg Bool.false_ne_true]
      refine ⟨_, rfl, fun u n4 hn4 ru => q u _ H3 n4 (e02.trans e3) ⟨a, rfl, ex_rd (e02.trans e3) hb⟩ trivial (fun c l z g => ?_) (by omega) ru⟩
      cases z
      have hb3 := ex_rd (e02.trans e3) hb
      rcases g with g | ⟨_, g⟩ <;> rcases hb3 with hb3 | ⟨_, hb3⟩ <;> rw [hb3] at g <;> cases g
end
end Ev
set_option Elab.async false
set_option linter.all false
set_option maxRecDepth 100000
set_option maxHeartbeats 1000000
namespace Ev
open PySem PySem.Spec PyProof.Rows L2 Evl StX LamX NdefX
/-! ### drawn orders, their signs exchanged -/
theorem OkO.map {π : Nat → Nat} (h : Ren π) {o : Od} (k : OkO o) (g : AllSg (namedM o)) : OkO (mapO π o) := by
  cases o with
  | rep x y => exact ⟨fun z => k.1 (List.map_eq_nil_iff.mp z), by rw [List.length_map]; exact k.2.1, by rw [List.length_map]; exact k.2.2⟩
  | front x => show (x.map π).length ≤ 3; rw [List.length_map]; exact k
  | back x => show (x.map π).length ≤ 3; rw [List.length_map]; exact k
  | first n => exact k
  | last n => exact k
  | letters ps =>
    refine ⟨?_, by rw [List.length_map]; exact k.2⟩
    have g1 : ∀ p ∈ ps, p.1 ∈ SG := fun p hp => g _ (List.mem_flatMap.mpr ⟨p, hp, by simp⟩)
    have nd := k.1
    clear k g
    induction ps with
    | nil => exact .nil
    | cons p ps ih =>
      rw [List.map_cons, List.nodup_cons] at nd
      rw [List.map_cons, List.map_cons, List.nodup_cons]
      refine ⟨fun hm => ?_, ih (fun q hq => g1 q (List.mem_cons_of_mem _ hq)) nd.2⟩
      obtain ⟨q, hq, e⟩ := List.mem_map.mp hm
      obtain ⟨r, hr, rfl⟩ := List.mem_map.mp hq
      have := h.inj _ (g1 r (List.mem_cons_of_mem _ hr)) _ (g1 p List.mem_cons_self) e
      exact nd.1 (List.mem_map.mpr ⟨r, hr, this⟩)
theorem stOf_map {π : Nat → Nat} (o : Od) : (stOf (mapO π o)).length = (stOf o).length := by
  cases o <;> simp [stOf, mapO]
theorem nn_map {π : Nat → Nat} : ∀ os : List Od, nn (os.map (mapO π)) = nn os
  | [] => rfl
  | o :: os => by
    show (stOf (mapO π o)).length * nn (os.map (mapO π)) = (stOf o).length * nn os
    rw [stOf_map, nn_map os]
theorem named_map {π : Nat → Nat} (o : Od) : namedM (mapO π o) = (namedM o).map π := by
  cases o with
  | letters ps =>
    show (ps.map _).flatMap _ = (ps.flatMap _).map π
    induction ps with
    | nil => rfl
    | cons p ps ih => simp [List.flatMap_cons, ih]
  | _ => simp [namedM, mapO]
theorem DR.map {π : Nat → Nat} (h : Ren π) {L : Tx} {m b : Nat} {os : List Od} (D : DR L m b os) : DR (L.map π) m b (os.map (mapO π)) where
  ok := fun o ho => by
    obtain ⟨q, hq, rfl⟩ := List.mem_map.mp ho
    exact (D.ok q hq).map h fun c hc => D.sg c (List.mem_flatMap.mpr ⟨q, hq, hc⟩)
  sg := fun c hc => by
    obtain ⟨o, ho, hc⟩ := List.mem_flatMap.mp hc
    obtain ⟨q, hq, rfl⟩ := List.mem_map.mp ho
    rw [named_map] at hc
    obtain ⟨d, hd, rfl⟩ := List.mem_map.mp hc
    exact h.into d (D.sg d (List.mem_flatMap.mpr ⟨q, hq, hd⟩))
  len := by rw [List.length_map]; exact D.len
  nn := by rw [nn_map]; exact D.nn
  nm := fun c hc => by
    obtain ⟨o, ho, hc⟩ := List.mem_flatMap.mp hc
    obtain ⟨q, hq, rfl⟩ := List.mem_map.mp ho
    rw [named_map] at hc
    obtain ⟨d, hd, rfl⟩ := List.mem_map.mp hc
    exact List.mem_map.mpr ⟨d, D.nm d (List.mem_flatMap.mpr ⟨q, hq, hd⟩), rfl⟩
theorem one_of {L : Tx} {m b : Nat} {os : List Od} {x : Tx} (D : DR L m b os) (hm : m ≤ 6) (hx : AllSg x) (hz : x.length ≤ 2) (hb : b ≤ 1000) : One os x where
  o := D.ok
  s := D.sg
  z := Nat.le_trans (pow3_le6 os 6 (Nat.le_trans D.len hm)) (by decide)
  ax := hx
  xz := Nat.le_trans hz (by decide)
  nn := Nat.le_trans (Nat.mul_le_mul (Nat.le_trans D.nn hb) (show x.length + 1 ≤ 3 by omega)) (by decide)
theorem src_of {L : Tx} {m b : Nat} {os : List Od} {x : Tx} (hL : L.length ≤ 25) (D : DR L m b os) (hx : AllSg x) (hxL : ∀ c ∈ x, c ∈ L) : ∃ r, srcM os x = some r ∧ LlFull (nn os * (x.length + 1)) (fun w => playedM os w = x) r := by
  refine srcM_full D.ok D.sg hx ?_
  have := others_many (named := x ++ namedsM os) (L := L) fun c hc => (List.mem_append.mp hc).elim (hxL c) (D.nm c)
  omega
theorem show_of {L : Tx} {m b : Nat} {os : List Od} {x : Tx} (hL : L.length ≤ 25) (D : DR L m b os) (hx : AllSg x) (h0 : x ≠ []) (hxL : ∀ c ∈ x, c ∈ L) : ∃ r, showM os x = some r ∧ LlFull (nn os * (x.length + 1)) (fun w => x <:+: playedM os w) r := by
  refine showM_full D.ok D.sg hx h0 ?_
  have := others_many (named := x ++ namedsM os) (L := L) fun c hc => (List.mem_append.mp hc).elim (hxL c) (D.nm c)
  omega
section
variable {P : Program} {w : World} {K : PySem.W.Frag} {mg : Str → Option Value} {base : Heap}
/-! ### _law_size -/
def szV : Option Tx → V
  | none => .non
  | some x => .int (x.length : Int)
theorem szV_eq {r r' : Option Tx} (h : szM r = szM r') : szV r = szV r' := by
  cases r <;> cases r' <;> simp_all [szM, szV]
theorem sc_size : FnScope ["_law_line_it"] ["_law_line_it"] (defScope (top 50)) := ⟨rfl, rfl, rfl, by decide +kernel, rfl, by decide +kernel, by decide +kernel⟩
def spSize : Sp := fun vs H Q _ => ∃ r : Option Tx, vs = [rV r] ∧ (∀ x, r = some x → x.length ≤ 8000000) ∧ RetV (szV r) H Q
theorem ok_size (F : At K mg 50 "_law_size") (G : Gb mg) : Df P w K mg base 1 "_law_size" ["_law_line_it"] spSize := by
  refine Df.made (N := ["_law_line_it"]) F sc_size (fun _ _ _ _ _ _ us hl => match us, hl with | [_], _ => rfl) (fun vs H Q E h => ?_) (fun f cdv A outer s H vs Q E hr h => ?_)
  · obtain ⟨r, rfl, _⟩ := h; rfl
  refine ⟨_, pss_one (ps_ret (pe_ifExp (pt_cmpR op_isN1 (pv 0) pe_non (nomark _)) pe_non (pe_callB call_len_str (by rfl) G.len bi_len (pa_cons (pv 0) pa_nil)))), ?_⟩
  obtain ⟨r, rfl, hz, q⟩ := h
  refine s_ret (v := szV r) (ev_if (b := decide (r = none)) (et_test (ev_op (ev_var rfl) ev_c rv_isNone)) (fun hb => ?_) fun hb => ?_) q
  · rw [of_decide_eq_true hb]; exact ev_c
  · cases r with
    | none => cases hb
    | some x => exact ev_lenS (ev_var rfl) (Nat.le_trans (hz x rfl) (by decide))
theorem spv_size {H : Hp} {r : Option Tx} (hz : ∀ x, r = some x → x.length ≤ 8000000) : SpV spSize [rV r] H (szV r) := spv_of fun H1 e Q E q => ⟨r, rfl, hz, q⟩
end
end Ev
set_option Elab.async false
set_option linter.all false
set_option maxRecDepth 100000
set_option maxHeartbeats 1000000
namespace Ev
open PySem PySem.Spec PyProof.Rows L2 Evl StX LamX NdefX
section
variable {X : Cx}
/-- a list that was locked while it was made is opened: its items are what was put in -/
def tOpenK (t : TEK) : TEK := fun σ H n Q => t σ H n fun u v H' n' => ∃ (D : Addr) (acc : List Value) (k : Nat) (ys : List V), H D = none ∧ H' D = some (.frz (LstO acc k) (.lst ys)) ∧ (Vals ys acc → Q u v (upd H' D (.lst ys)) n')
theorem pek_open {e : Expr} {t : TEK} (h : PEK X e t) : PEK X e (tOpenK t) := by
  refine ⟨fun pins s σ H Q I q => thn (h.run pins s σ H _ I q) fun u s' ⟨v, H', I', r, D, acc, k, ys, hn, hD, q⟩ => ?_⟩
  have nf : ∀ o' u', X.H_0 D = some (.frz o' u') → False := fun o' u' e => by
    have := I.base.frzs D o' u' e
    rw [hn] at this; cases this
  obtain ⟨ho, _, its, kk, rv, e⟩ := I'.hok D _ hD
  rw [ho] at e
  have e2 := congrArg (fun o : Option Obj => o.map (·.data)) e
  simp only [LstO, Option.map_some, Option.some.injEq, Data.seq.injEq] at e2
  have e3 : acc = its := by simpa using congrArg Array.toList e2.1
  subst e3
  exact ⟨v, _, I'.unlock hD nf, r, q rv⟩
end
/-- an order in a list that is being made -/
def Itm (D : Addr) (H : Hp) (a : Addr) (o : Od) : Prop := OdV H (.ref a) o ∧ TokV H (.ref a) o ∧ ∀ l, Rd H a (.tup [.str "letters", .ref l]) → l ≠ D
theorem rd_same {H : Hp} {a : Addr} {xs ys : List V} (h : Rd H a (.tup xs)) (k : Rd H a (.tup ys)) : xs = ys := by
  rcases h with h | ⟨_, h⟩ <;> rcases k with k | ⟨_, k⟩ <;> rw [h] at k <;> cases k <;> rfl
theorem Itm.mono {D : Addr} {H H' : Hp} {a : Addr} {o : Od} (e : Ex H H') (h : Itm D H a o) : Itm D H' a o := by
  obtain ⟨h1, h2, h3⟩ := h
  obtain ⟨b, xs, eb, hb, _⟩ := h1.head
  cases eb
  refine ⟨h1.mono e, h2.mono e, fun l hl => h3 l ?_⟩
  have := rd_same (ex_rd e hb) hl
  subst this
  exact hb
theorem Itm.upd {D : Addr} {H : Hp} {a : Addr} {o : Od} {u : HO} (h : Itm D H a o) (hD : ∀ xs, ¬ Rd H D (.tup xs)) : Itm D (L2.upd H D u) a o := by
  obtain ⟨h1, h2, h3⟩ := h
  obtain ⟨b, xs, eb, hb, _⟩ := h1.head
  cases eb
  have hne : a ≠ D := fun z => hD _ (z ▸ hb)
  refine ⟨h1.upd hD fun a' l e g => by cases e; exact h3 l g, h2.upd hD, fun l hl => h3 l ?_⟩
  unfold Rd at hl ⊢
  rw [upd_ne hne] at hl
  exact hl
theorem vals_refs : ∀ {as : List Addr} {ys : List V}, Vals ys (as.map Value.ref) → ys = as.map V.ref
  | [], [], _ => rfl
  | a :: as, y :: ys, .cons r rs => by
    have h1 : y = V.ref a := by
      cases y with
      | ref b =>
        have h : (Value.ref a) = Value.ref b := r
        cases h; rfl
      | non => exact absurd (show Value.ref a = Value.none from r) (by simp)
      | bl b => exact absurd (show Value.ref a = Value.bool b from r) (by simp)
      | int i => obtain ⟨t, h⟩ := (show ∃ t, Value.ref a = Value.int i t from r); cases h
      | str i => obtain ⟨t, h⟩ := (show ∃ t, Value.ref a = Value.str i t from r); cases h
      | byt i => obtain ⟨t, h⟩ := (show ∃ t, Value.ref a = Value.bytes i t from r); cases h
      | flt i => obtain ⟨t, h⟩ := (show ∃ t, Value.ref a = Value.float i t from r); cases h
      | ty n => exact absurd (show Value.ref a = Value.type n from r) (by simp)
    rw [List.map_cons, h1, vals_refs rs]
section
variable {P : Program} {w : World} {K : PySem.W.Frag} {mg : Str → Option Value} {base : Heap}
/-- [_law_turned_order(names, o) for o in orders] -/
theorem q_turnlist {σ : L2.St} {H : Hp} {n : Nat} {Q : VKK} {i k j : Nat} {vs : List Nat} {v : V} {os : List Od} {d : Addr} {ds : List (Key × Value)} {ρ τ : Nat → Nat} {lo hi : Nat}
    (hv : σ[i]? = some (some v)) (hos : OdsL H v os) (hk : ∀ x, ((wipe σ vs).set j (some x))[k]? = some (some (.ref d))) (hj : ∀ x, ((wipe σ vs).set j (some x))[j]? = some (some x)) (hw : ∀ x, wipe ((wipe σ vs).set j (some x)) vs = wipe σ vs)
    (hd : H d = some (DX P w ds d)) (nm : Nmd ds ρ τ lo hi) (hn : hi ≤ n) (ok : OkOs os) (sg : SgOs os) (hz : os.length ≤ 1000)
    (q : ∀ D H' n', Ex H H' → OdsK H' (.ref D) (os.map (mapO ρ)) → n ≤ n' → Q (.ref D) (.ref D) H' n') :
    tOpenK (tLcK (iList K (tVar i)) (gName j) (tCallK (spTOrderK P w) (tCons (tVar k) (tCons (tVar j) tNil))) vs) σ H n Q := by
  obtain ⟨a, ws, rfl, hA, hp⟩ := hos
  have hlen := paired_len hp
  refine ⟨.ref a, hv, a, rfl, ⟨ws, sq_of hA⟩, fun D n0 nD hn0 => ?_⟩
  refine lcK_it (walk_list (a := a) (xs := ws)) (fun m H' n' acc => Ex H H' ∧ n ≤ n' ∧ ∃ as : List Addr, acc = as.map Value.ref ∧ Paired (Itm D H') as ((os.take m).map (mapO ρ))) (fun o => ⟨Ex.upd_new (Ex.refl H) nD, hn0, [], rfl, .nil⟩) (fun m H' n' acc _ z => sq_of (z.1 _ _ hA)) (fun m x H2 H' n4 acc hm pv lk hy => ?_) (fun H2 n4 n5 acc pv lk h45 => ?_)
  · obtain ⟨eH, hx⟩ := hy
    have eH := eH.symm
    subst eH
    obtain ⟨e1, t1, as, rfl, has⟩ := pv
    obtain ⟨o, ho, hxo⟩ := paired_get hp hx
    have hmem : o ∈ os := List.mem_of_getElem? ho
    refine ⟨hw _, fun n5 h5 => ?_⟩
    refine ⟨_, hk _, _, hj _, fun n6 h6 => ⟨d, ds, ρ, τ, lo, hi, x, o, rfl, e1 _ _ hd, nm, Nat.le_trans hn (Nat.le_trans t1 (Nat.le_trans h5 h6)), hxo.mono e1, ok o hmem, fun c hc => sg c (List.mem_flatMap.mpr ⟨o, hmem, hc⟩), fun u v' H4 n7 e4 od tk nl h7 ru => ?_⟩⟩
    obtain ⟨kk, ys, lk⟩ := lk
    have lk4 := e4 _ _ lk
    have hDt : ∀ xs, ¬ Rd H4 D (.tup xs) := fun xs z => by rcases z with z | ⟨_, z⟩ <;> rw [lk4] at z <;> cases z
    obtain ⟨b, rfl⟩ := od.ref
    obtain rfl : u = Value.ref b := ru
    have la := paired_len has
    rw [List.length_map, List.length_take] at la
    refine ⟨by rw [lk4, lk], by rw [List.length_map]; omega, fun o' => ⟨Ex.upd_new (e1.trans e4) nD, Nat.le_trans t1 (Nat.le_trans h5 (Nat.le_trans h6 h7)), as ++ [b], by simp, ?_⟩⟩
    rw [List.take_add_one, ho, List.map_append]
    refine paired_app (L2.Paired.mapP has fun x y z => (z.mono e4).upd hDt) (.cons ?_ .nil)
    refine Itm.upd ⟨od, tk, fun l hl z => ?_⟩ hDt
    have := nl b l rfl hl
    rw [z, lk] at this
    cases this
  · obtain ⟨e1, t1, as, rfl, has⟩ := pv
    rw [hlen, List.take_length] at has
    obtain ⟨kk, ys, lk⟩ := lk
    refine ⟨D, as.map Value.ref, kk, ys, nD, lk, fun rv => ?_⟩
    have hDt : ∀ xs, ¬ Rd H2 D (.tup xs) := fun xs z => by rcases z with z | ⟨_, z⟩ <;> rw [lk] at z <;> cases z
    rw [vals_refs rv]
    refine q D _ n5 (Ex.upd_new e1 nD) ⟨D, as.map V.ref, rfl, upd_same, ?_⟩ (Nat.le_trans t1 h45)
    clear lk hlen
    have has2 := L2.Paired.mapP has fun x y z => z.upd (u := .lst (as.map V.ref)) hDt
    generalize upd H2 D (.lst (as.map V.ref)) = G at has2
    clear rv has
    generalize os.map (mapO ρ) = qs at has2
    induction has2 with
    | nil => exact .nil
    | cons r _ ih => exact .cons ⟨r.1, r.2.1⟩ ih
end
end Ev
set_option Elab.async false
set_option linter.all false
set_option maxRecDepth 100000
set_option maxHeartbeats 1000000
namespace Ev
open PySem PySem.Spec PyProof.Rows L2 Evl StX LamX NdefX
/-! ### readings over which the tables grow -/
def EvX (T : List NTab) (te : TE) (σ : L2.St) (H : Hp) (x : V) : Prop := ∀ H1, ExtN H H1 → TabsN T H1 → ∀ Q : VK, (∀ H2, ExtN H1 H2 → TabsN T H2 → Q x H2) → te σ H1 Q
section
variable {T : List NTab} {σ : L2.St} {H : Hp} {te ta tb : TE} {x y z : V} {E : XK} {v : V} {os : List Od} {w : Tx} {r : Option Tx}
theorem ex_var {i : Nat} (h : σ[i]? = some (some v)) : EvX T (tVar i) σ H v := fun H1 _ t _ q => ⟨v, h, q H1 (ExtN.refl H1) t⟩
theorem ex_c : EvX T (tC v) σ H v := fun H1 _ t _ q => q H1 (ExtN.refl H1) t
theorem ex_op {r : R2} (ha : EvX T ta σ H x) (hb : EvX T tb σ H y) (hr : ∀ H, RV r x y H z) : EvX T (tOp r ta tb) σ H z := fun H1 e t Q q =>
  ha H1 e t _ fun H2 e2 t2 => hb H2 (e.trans e2) t2 _ fun H3 e3 t3 => hr H3 H3 (Ex.refl H3) Q fun H4 e4 => q H4 ((e2.trans e3).trans (Ex.n e4)) (tabs_ex e4 t3)
theorem ex_src (ha : EvX T ta σ H v) (hb : EvX T tb σ H (st w)) (hv : OdsL H v os) (O : One os w) (h : srcM os w = some r) : EvX T (tCall (spSource T) [] E (tCons ta (tCons tb tNil))) σ H (rV r) := fun H1 e t Q q =>
  ha H1 e t _ fun H2 e2 t2 => hb H2 (e.trans e2) t2 _ fun H3 e3 t3 => ⟨v, os, w, r, rfl, hv.n ((e.trans e2).trans e3), t3, O, h, fun H4 e4 t4 => q H4 ((e2.trans e3).trans e4) t4⟩
theorem ex_show (ha : EvX T ta σ H v) (hb : EvX T tb σ H (st w)) (hv : OdsL H v os) (O : One os w) (h1 : 1 ≤ w.length) (h4 : w.length ≤ 4) (h : showM os w = some r) : EvX T (tCall (spShows T) [] E (tCons ta (tCons tb tNil))) σ H (rV r) := fun H1 e t Q q =>
  ha H1 e t _ fun H2 e2 t2 => hb H2 (e.trans e2) t2 _ fun H3 e3 t3 => ⟨v, os, w, r, rfl, hv.n ((e.trans e2).trans e3), t3, O, h1, h4, h, fun H4 e4 t4 => q H4 ((e2.trans e3).trans e4) t4⟩
theorem ex_size (h : EvX T te σ H (rV r)) (hz : ∀ x, r = some x → x.length ≤ 8000000) : EvX T (tCall spSize [] E (tCons te tNil)) σ H (szV r) := fun H1 e t Q q =>
  h H1 e t _ fun H2 e2 t2 => ⟨r, rfl, hz, fun H3 e3 => q H3 (e2.trans (Ex.n e3)) (tabs_ex e3 t2)⟩
theorem q_whenX {D : Ends} {tu tz : TS} (h : EvX T te σ H (.bl false)) (t : TabsN T H) (k : ∀ H1, ExtN H H1 → TabsN T H1 → tz D σ H1) : tSeq (tIfS (tTest te) tu tNext) tz D σ H :=
  h H (ExtN.refl H) t _ fun H1 e1 t1 => ⟨false, rfl, by
    show (if false = true then _ else _ : Prop)
    rw [if_neg Bool.false_ne_true]
    exact k H1 e1 t1⟩
theorem s_retX {D : Ends} (h : EvX T te σ H v) (t : TabsN T H) (k : ∀ H1, ExtN H H1 → TabsN T H1 → D.rt v H1) : tRet te D σ H := h H (ExtN.refl H) t _ k
theorem scal_sz (r r' : Option Tx) : scal (szV r) (szV r') = true := by cases r <;> cases r' <;> rfl
theorem scal_rV (r r' : Option Tx) : scal (rV r) (rV r') = true := by cases r <;> cases r' <;> rfl
end
/-- all but the pump and the tables stays -/
def MvN (p : Addr) (H H' : Hp) : Prop := ∀ a o, H a = some o → a ≠ p → (∀ ps, o ≠ .tbl ps) → H' a = some o
section
variable {p : Addr} {H H1 H' : Hp} {v : V}
theorem MvN.of (m : Mv p H H1) (e : ExtN H1 H') : MvN p H H' := fun a o h n t => e a o (m a o h n) t
theorem TabsN.mv {T : List NTab} (hp : PumpOk p H) (m : Mv p H H') (t : TabsN T H) : TabsN T H' := fun q hq => by
  obtain ⟨ps, h1, h2, h3⟩ := t q hq
  have ne : ∀ {a : Addr} {o : HO}, H a = some o → (∀ n, o ≠ .lst [.int n]) → H' a = some o := fun h n => at_mv hp m n h
  refine ⟨ps, ne h1 (fun _ z => nomatch z), h2, fun pos cv hc => ?_⟩
  obtain ⟨c, e1, e2⟩ := h3 pos cv hc
  exact ⟨c, e1, ne e2 (fun n z => by unfold CodeO at z; cases z)⟩
theorem PumpOk.n (h : PumpOk p H) (e : ExtN H H') : PumpOk p H' := let ⟨n, a, b⟩ := h; ⟨n, a, e _ _ b (fun _ z => nomatch z)⟩
theorem OdsK.n {os : List Od} (e : ExtN H H') (h : OdsK H v os) : OdsK H' v os := by
  obtain ⟨a, vs, h1, h2, h3⟩ := h
  refine ⟨a, vs, h1, e _ _ h2 (fun ps z => nomatch z), L2.Paired.mapP h3 fun x y z => ⟨OdV.n e z.1, ?_⟩⟩
  have tk := z.2
  cases y with
  | rep o n =>
    obtain ⟨a, ob, k, t0, t1, t2, g1, g2, g3⟩ := tk
    exact ⟨a, ob, k, t0, t1, t2, g1, e _ _ g2 (fun ps z => nomatch z), g3⟩
  | _ => trivial
end
section
variable {P : Program} {w : World} {K : PySem.W.Frag} {mg : Str → Option Value} {base : Heap}
/-- the tokens forgotten -/
def tTold (t : TSK) : TS := fun D σ H => ∀ n, t { nx := fun σ' H' _ => D.nx σ' H', rt := fun _ v H' _ => D.rt v H' } σ H n
theorem pss_told {X : Cx} {ss : List Stmt} {t : TSK} (h : PSsK X ss t) : PSs X ss (tTold t) := ⟨fun pins s σ H D I q => thn (h.run pins s σ H _ I (q _)) fun f s' z => by
  cases f with
  | next => obtain ⟨σ', H', I', q'⟩ := z; exact ⟨σ', H', I', q'⟩
  | ret u => obtain ⟨v, σ', H', I', r, q'⟩ := z; exact ⟨v, σ', H', I', r, q'⟩
  | brk => exact z.elim
  | cont => exact z.elim⟩
theorem qk_par {i j : Nat} {t1 t2 : TEK} {tz : TSK} {D : EndsK} {n : Nat} {σ : L2.St} {H : Hp} (h : t1 σ H n fun _ v H1 n1 => t2 σ H1 n1 fun _ w H2 n2 => ∃ v' w', [v, w] = [v', w'] ∧ ∀ n3, n2 ≤ n3 → tz D ((σ.set i (some v')).set j (some w')) H2 n3) :
    tSeqK (tParK i j (tConsK t1 (tConsK t2 tNilK))) tz D σ H n := h
/-! ### _law_exchanged -/
theorem sc_exch : FnScope ["_law_pump_here", "_law_one_it", "_law_other_it", "_law_word_it", "_law_names_here", "_law_mine", "_law_others", "_law_told", "_law_turned_here", "_law_line_it", "_law_order_here"] ["_law_pump_here", "_law_one_it", "_law_other_it", "_law_word_it"] (defScope (top 51)) := ⟨rfl, rfl, rfl, by decide +kernel, rfl, by decide +kernel, by decide +kernel⟩
def spExch (T : List NTab) : Sp := fun vs H Q _ => ∃ (p : Addr) (v u : V) (one other : List Od) (L x : Tx), vs = [.ref p, v, u, st x] ∧ OdsK H v one ∧ OdsK H u other ∧ DR L 1 28 one ∧ DR L 1 3 other ∧ L.length ≤ 25 ∧ AllSg L ∧ (∀ c ∈ x, c ∈ L) ∧ 1 ≤ x.length ∧ x.length ≤ 2 ∧ TabsN T H ∧ PumpOk p H ∧
  ∀ H', MvN p H H' → TabsN T H' → PumpOk p H' → Q (.bl true) H'
theorem ok_exch {T : List NTab} (F : At K mg 51 "_law_exchanged") (DN : DfK P w K mg base 2 "_law_names" ["_law_pump_here"] (spNamesK P w)) (DT : DfK P w K mg base 1 "_law_turned" ["_law_names_here", "_law_line_it"] (spTurnedK P w)) (DO : DfK P w K mg base 2 "_law_turned_order" ["_law_names_here", "_law_order_here"] (spTOrderK P w))
    (DZ : Df P w K mg base 1 "_law_size" ["_law_line_it"] spSize) (DU : Df P w K mg base 7 "unlike_line" ["one", "other"] spUnlike) (DI : Df P w K mg base 7 "idle_lines" ["orders"] spIdle) (DP : Df P w K mg base 6 "played" ["orders", "line"] spPlayed)
    (DS : Df P w K mg base 7 "source" ["orders", "line"] (spSource T)) (DW : Df P w K mg base 7 "shows" ["orders", "word"] (spShows T)) : Df P w K mg base 8 "_law_exchanged" ["_law_pump_here", "_law_one_it", "_law_other_it", "_law_word_it"] (spExch T) := by
  refine Df.made (N := ["_law_pump_here", "_law_one_it", "_law_other_it", "_law_word_it", "_law_names_here", "_law_mine", "_law_others", "_law_told", "_law_turned_here", "_law_line_it", "_law_order_here"]) F sc_exch (fun _ _ _ _ _ _ us hl => match us, hl with | [_, _, _, _], _ => rfl) (fun vs H Q E h => ?_) (fun f cdv A outer s H vs Q E hr h => ?_)
  · obtain ⟨p, v, u, _, _, _, x, rfl, _⟩ := h; rfl
  refine ⟨_, pss_told (psk_cons (psk_set (i := 4) sc_exch.nd rfl (.inr rfl) (pek_df DN hr (by decide) (by rfl) (pa_cons (pv 0) pa_nil)))
    (psk_cons (psk_par (i := 5) (j := 6) rfl sc_exch.nd rfl rfl (by decide) rfl rfl
      (pak_cons (pek_open (pek_lc (own := [("_law_order_here", 10)]) (g := gName 10) (te := tCallK (spTOrderK P w) (tCons (tVar 4) (tCons (tVar 10) tNil))) rfl sc_exch.nd (pi_list (pv 1)) (blkOk_by (own := [("_law_order_here", 10)]) (N := ["_law_pump_here", "_law_one_it", "_law_other_it", "_law_word_it", "_law_names_here", "_law_mine", "_law_others", "_law_told", "_law_turned_here", "_law_line_it", "_law_order_here"]) (sc := defScope (top 51)) (by decide +kernel))
          (fun _ _ _ _ _ => pg_name (i := 10) sc_exch.nd rfl (.inl rfl)) (fun _ _ _ _ _ => pek_df DO hr (by decide) (by rfl) (pa_cons (pv 4) (pa_cons (pv 10) pa_nil)))))
      (pak_cons (pek_open (pek_lc (own := [("_law_order_here", 10)]) (g := gName 10) (te := tCallK (spTOrderK P w) (tCons (tVar 4) (tCons (tVar 10) tNil))) rfl sc_exch.nd (pi_list (pv 2)) (blkOk_by (own := [("_law_order_here", 10)]) (N := ["_law_pump_here", "_law_one_it", "_law_other_it", "_law_word_it", "_law_names_here", "_law_mine", "_law_others", "_law_told", "_law_turned_here", "_law_line_it", "_law_order_here"]) (sc := defScope (top 51)) (by decide +kernel))
          (fun _ _ _ _ _ => pg_name (i := 10) sc_exch.nd rfl (.inl rfl)) (fun _ _ _ _ _ => pek_df DO hr (by decide) (by rfl) (pa_cons (pv 4) (pa_cons (pv 10) pa_nil))))) pak_nil)) rfl)
    (pssk (pss_cons (ps_par (i := 7) (j := 8) rfl sc_exch.nd rfl rfl (by decide) rfl rfl (pa_cons (pe_df DU hr (by decide) (by rfl) (pa_cons (pv 1) (pa_cons (pv 2) pa_nil))) (pa_cons (pe_told (pek_df DT hr (by decide) (by rfl) (pa_cons (pv 4) (pa_cons (pv 3) pa_nil)))) pa_nil)) rfl)
    (pss_cons (ps_if (PW.pt (pw_or (pt_cmpR op_ne (pe_df DZ hr (by decide) (by rfl) (pa_cons (pv 7) pa_nil)) (pe_df DZ hr (by decide) (by rfl) (pa_cons (pe_df DU hr (by decide) (by rfl) (pa_cons (pv 5) (pa_cons (pv 6) pa_nil))) pa_nil)) (nomark _)) (pw_or1 (pt_cmpR op_ne (pe_df DI hr (by decide) (by rfl) (pa_cons (pv 5) pa_nil)) (pe_df DI hr (by decide) (by rfl) (pa_cons (pv 1) pa_nil)) (nomark _))))) (pss_one (ps_ret pe_bl)) pss_nil)
    (pss_cons (ps_if (pt_cmpR op_notN1 (pv 7) pe_non (nomark _)) (pss_cons (ps_set (i := 9) sc_exch.nd rfl (.inl rfl) (pe_told (pek_df DT hr (by decide) (by rfl) (pa_cons (pv 4) (pa_cons (pv 7) pa_nil)))))
        (pss_one (ps_if (pt_cmpR op_eq (pe_df DP hr (by decide) (by rfl) (pa_cons (pv 5) (pa_cons (pv 9) pa_nil))) (pe_df DP hr (by decide) (by rfl) (pa_cons (pv 6) (pa_cons (pv 9) pa_nil))) (nomark _)) (pss_one (ps_ret pe_bl)) pss_nil))) pss_nil)
    (pss_cons (ps_if (pt_cmpR op_ne (pe_df DZ hr (by decide) (by rfl) (pa_cons (pe_df DS hr (by decide) (by rfl) (pa_cons (pv 1) (pa_cons (pv 3) pa_nil))) pa_nil)) (pe_df DZ hr (by decide) (by rfl) (pa_cons (pe_df DS hr (by decide) (by rfl) (pa_cons (pv 5) (pa_cons (pv 8) pa_nil))) pa_nil)) (nomark _)) (pss_one (ps_ret pe_bl)) pss_nil)
    (pss_one (ps_ret (pe_cmpR op_eq (pe_df DZ hr (by decide) (by rfl) (pa_cons (pe_df DW hr (by decide) (by rfl) (pa_cons (pv 1) (pa_cons (pv 3) pa_nil))) pa_nil)) (pe_df DZ hr (by decide) (by rfl) (pa_cons (pe_df DW hr (by decide) (by rfl) (pa_cons (pv 5) (pa_cons (pv 8) pa_nil))) pa_nil)) (nomark _))))))))))), ?_⟩
  obtain ⟨p, v, u, one, other, L, x, rfl, hv, hu, D1, D2, hL, hLs, hxL, x1, x2, hT, hp, q⟩ := h
  intro n0
  refine ⟨.ref p, rfl, fun n1 hn1 => ⟨p, rfl, hp, fun d ds ρ τ H1 n2 hd nm mv1 hp1 n3 hn3 => ?_⟩⟩
  have hv1 := hv.mv hp mv1
  have hu1 := hu.mv hp mv1
  have hT1 := TabsN.mv hp mv1 hT
  have R := nm.ren
  have hx : AllSg x := fun c hc => hLs c (hxL c hc)
  dsimp only
  refine qk_par ?_
  refine q_turnlist (σ := [some (.ref p), some v, some u, some (st x), some (.ref d), none, none, none, none, none, none]) (i := 1) (k := 4) (j := 10) (vs := [10]) (n := n3) rfl hv1.odsL (fun _ => rfl) (fun _ => rfl) (fun _ => rfl) hd nm hn3 D1.ok D1.sg (Nat.le_trans D1.len (by decide)) fun Da H2 n4 e2 hm hn4 => ?_
  refine q_turnlist (σ := [some (.ref p), some v, some u, some (st x), some (.ref d), none, none, none, none, none, none]) (i := 2) (k := 4) (j := 10) (vs := [10]) (n := n4) rfl (hu1.mono e2).odsL (fun _ => rfl) (fun _ => rfl) (fun _ => rfl) (e2 _ _ hd) nm (Nat.le_trans hn3 hn4) D2.ok D2.sg (Nat.le_trans D2.len (by decide)) fun Db H3 n5 e3 ho hn5 => ?_
  refine ⟨_, _, rfl, fun n6 hn6 => ?_⟩
  have e13 := e2.trans e3
  have hv3 := hv1.mono e13
  have hu3 := hu1.mono e13
  have hm3 := hm.mono e3
  have hd3 := e13 _ _ hd
  have hT3 := tabs_ex e13 hT1
  have hp3 := hp1.ex e13
  have mv3 : Mv p H H3 := mv1.trans (Mv.ex e13)
  have M1 := D1.map R
  have M2 := D2.map R
  have hLm : (L.map ρ).length ≤ 25 := by rw [List.length_map]; exact hL
  obtain ⟨r1, f1, F1⟩ := fu_of hL D1 D2
  obtain ⟨r1', f1', F1'⟩ := fu_of hLm M1 M2
  obtain ⟨r2, f2, F2⟩ := fu_of hL D1 (DR.nil (L := L))
  obtain ⟨r2', f2', F2'⟩ := fu_of hLm M1 (DR.nil (L := L.map ρ))
  have z1 : szM r1 = szM r1' := fu_exch R D1.sg D2.sg F1 F1'
  have z2 : szM r2 = szM r2' := fu_exch (other := []) R D1.sg (fun _ h => nomatch h) F2 F2'
  have len1 : ∀ w, r1 = some w → w.length ≤ 84 := fun w e => Nat.le_trans (F1.som w e).2.2.2 (Nat.le_trans (Nat.mul_le_mul D1.nn D2.nn) (by decide))
  have len1' : ∀ w, r1' = some w → w.length ≤ 84 := fun w e => Nat.le_trans (F1'.som w e).2.2.2 (Nat.le_trans (Nat.mul_le_mul M1.nn M2.nn) (by decide))
  have hxm : AllSg (x.map ρ) := R.all hx
  have hxmL : ∀ c ∈ x.map ρ, c ∈ L.map ρ := fun c hc => let ⟨d, hd, e⟩ := List.mem_map.mp hc; List.mem_map.mpr ⟨d, hxL d hd, e⟩
  have x1' : 1 ≤ (x.map ρ).length := by rw [List.length_map]; exact x1
  have x2' : (x.map ρ).length ≤ 2 := by rw [List.length_map]; exact x2
  have x0 : x ≠ [] := fun z => by rw [z] at x1; exact absurd x1 (by decide)
  have x0' : x.map ρ ≠ [] := fun z => x0 (List.map_eq_nil_iff.mp z)
  obtain ⟨s1, g1, S1⟩ := src_of hL D1 hx hxL
  obtain ⟨s1', g1', S1'⟩ := src_of hLm M1 hxm hxmL
  obtain ⟨s2, g2, S2⟩ := show_of hL D1 hx x0 hxL
  obtain ⟨s2', g2', S2'⟩ := show_of hLm M1 hxm x0' hxmL
  have y1 : szM s1 = szM s1' := src_exch R D1.sg hx S1 S1'
  have y2 : szM s2 = szM s2' := show_exch R D1.sg hx S2 S2'
  have big : ∀ {a b c : Nat}, a ≤ b * (c + 1) → b ≤ 28 → c ≤ 2 → a ≤ 8000000 := fun h1 h2 h3 => Nat.le_trans h1 (Nat.le_trans (Nat.mul_le_mul h2 (show _ ≤ 3 by omega)) (by decide))
  have rest : ∀ (D : Ends) (σ : L2.St) (H' : Hp), Ex H3 H' → σ[1]? = some (some v) → σ[3]? = some (some (st x)) → σ[5]? = some (some (.ref Da)) → σ[8]? = some (some (st (x.map ρ))) → (∀ H2, ExtN H' H2 → TabsN T H2 → D.rt (.bl true) H2) →
      tSeq (tIfS (tTest (tOp rNe (tCall spSize [] E0 (tCons (tCall (spSource T) [] E0 (tCons (tVar 1) (tCons (tVar 3) tNil))) tNil)) (tCall spSize [] E0 (tCons (tCall (spSource T) [] E0 (tCons (tVar 5) (tCons (tVar 8) tNil))) tNil)))) (tRet (tC (.bl false))) tNext)
        (tRet (tOp rEq (tCall spSize [] E0 (tCons (tCall (spShows T) [] E0 (tCons (tVar 1) (tCons (tVar 3) tNil))) tNil)) (tCall spSize [] E0 (tCons (tCall (spShows T) [] E0 (tCons (tVar 5) (tCons (tVar 8) tNil))) tNil)))) D σ H' := fun D σ H' e i1 i3 i5 i8 qq => by
    have hvL := (hv3.mono e).odsL
    have hmL := (hm3.mono e).odsL
    have hT' := tabs_ex e hT3
    have O1 := one_of D1 (by decide) hx x2 (by decide)
    have O2 := one_of M1 (by decide) hxm x2' (by decide)
    refine q_whenX (T := T) (H := H') ?_ hT' fun H7 e7 t7 => ?_
    · have := ex_op (T := T) (σ := σ) (H := H') (ex_size (E := E0) (ex_src (E := E0) (ex_var i1) (ex_var i3) hvL O1 g1) (fun w e => big (S1.som w e).2.2.2 D1.nn x2)) (ex_size (E := E0) (ex_src (E := E0) (ex_var i5) (ex_var i8) hmL O2 g1') (fun w e => big (S1'.som w e).2.2.2 M1.nn x2')) (fun H => rv_ne (scal_sz _ _))
      rw [szV_eq y1, decide_eq_true rfl] at this
      exact this
    · refine s_retX (T := T) (H := H7) (v := .bl true) ?_ t7 fun H8 e8 t8 => qq H8 (e7.trans e8) t8
      have := ex_op (T := T) (σ := σ) (H := H7) (ex_size (E := E0) (ex_show (E := E0) (ex_var i1) (ex_var i3) (hvL.n e7) O1 x1 (by omega) g2) (fun w e => big (S2.som w e).2.2.2 D1.nn x2)) (ex_size (E := E0) (ex_show (E := E0) (ex_var i5) (ex_var i8) (hmL.n e7) O2 x1' (by omega) g2') (fun w e => big (S2'.som w e).2.2.2 M1.nn x2')) (fun H => rv_eq (scal_sz _ _))
      rw [szV_eq y2, decide_eq_true rfl] at this
      exact this
  unfold tKs
  dsimp only
  refine q_par (ea_cons (ev_unlike2 (er_var rfl hv3.odsL) (er_var rfl hu3.odsL) (two_of D1 D2) f1) (ea_cons (ev_turned (ev_var rfl) (ev_var rfl) hd3 nm hx (Nat.le_trans x2 (by decide))) ea_nil)) fun H4 e4 => ?_
  have ez1 : ∀ {G : Hp} {σ : L2.St} {te : TE} {E : XK}, Ev te σ G (rV r1) → Ev (tCall spSize [] E (tCons te tNil)) σ G (szV r1) := fun h => ev_call (ea_cons h ea_nil) (spv_size fun w e => Nat.le_trans (len1 w e) (by decide))
  have ez1' : ∀ {G : Hp} {σ : L2.St} {te : TE} {E : XK}, Ev te σ G (rV r1') → Ev (tCall spSize [] E (tCons te tNil)) σ G (szV r1') := fun h => ev_call (ea_cons h ea_nil) (spv_size fun w e => Nat.le_trans (len1' w e) (by decide))
  have hm4 := (hm3.mono e4).odsL
  have ho4 := (ho.mono e4).odsL
  refine q_when (b := false) (et_is (et_or (a := !decide (szV r1 = szV r1')) (b := !decide (decide (r2' = none) = decide (r2 = none))) (et_test (ev_op (ez1 (ev_var rfl)) (ez1' (ev_unlike2 (er_var rfl hm4) (er_var rfl ho4) (two_of M1 M2) f1')) (rv_ne (scal_sz _ _)))) fun _ => et_test (ev_op (ev_idle1 (er_var rfl hm4) (two_of M1 DR.nil) f2') (ev_idle1 (er_var rfl (hv3.mono e4).odsL) (two_of D1 DR.nil) f2) rv_neB)) ?_) (fun h => nomatch h) fun _ H5 e5 => ?_
  · rw [szV_eq z1]
    have : (r2' = none) = (r2 = none) := propext ⟨fun h => szM_none.mp (z2.trans (szM_none.mpr h)), fun h => szM_none.mp (z2.symm.trans (szM_none.mpr h))⟩
    simp only [this, decide_true, Bool.not_true, Bool.or_false]
  have e35 := e4.trans e5
  have fin : ∀ G, Ex H3 G → ∀ H2, ExtN G H2 → TabsN T H2 → Q (.bl true) H2 := fun G e H2 n t => q H2 (MvN.of (mv3.trans (Mv.ex e)) n) t ((hp3.ex e).n n)
  refine q_when (b := !decide (r1 = none)) (et_test (ev_op (ev_var rfl) ev_c rv_notNone')) (fun hb H6 e6 => ?_) fun hb H6 e6 => rest _ _ H6 (e35.trans e6) rfl rfl rfl rfl fun H2 n t u n' _ _ => fin H6 (e35.trans e6) H2 n t
  have e36 := e35.trans e6
  cases hr1 : r1 with
  | none => rw [hr1] at hb; cases hb
  | some wl =>
    obtain ⟨a1, a2, a3, a4⟩ := F1.som wl hr1
    have l1 := len1 wl hr1
    have a2' := (R.parts D1.sg D2.sg a1).mpr a2
    refine q_asg (v := st (wl.map ρ)) (ev_turned (ev_var rfl) (ev_var rfl) (e36 _ _ hd3) nm a1 (Nat.le_trans l1 (by decide))) fun H7 e7 => ?_
    have e37 := e36.trans e7
    have p1 := pow3_le6 (one.map (mapO ρ)) 1 M1.len
    have p2 := pow3_le6 (other.map (mapO ρ)) 1 M2.len
    have lm : (wl.map ρ).length ≤ 84 := by rw [List.length_map]; exact l1
    have m1 : pow3 (one.map (mapO ρ)) * ((wl.map ρ).length + 2) ≤ 3 * 86 := Nat.mul_le_mul p1 (by omega)
    have m2 : pow3 (other.map (mapO ρ)) * ((wl.map ρ).length + 2) ≤ 3 * 86 := Nat.mul_le_mul p2 (by omega)
    refine s_when (b := false) (et_is (et_test (ev_op (ev_call (ea_cons (ev_var rfl) (ea_cons (ev_var rfl) ea_nil)) (spv_played (hm3.mono e37).odsT M1.ok M1.sg (R.all a1) (by omega))) (ev_call (ea_cons (ev_var rfl) (ea_cons (ev_var rfl) ea_nil)) (spv_played (ho.mono e37).odsT M2.ok M2.sg (R.all a1) (by omega))) rv_eqS)) (decide_eq_false a2')) (fun h => nomatch h) fun _ H8 e8 => ?_
    exact rest _ _ H8 (e37.trans e8) rfl rfl rfl rfl fun H2 n t u n' _ _ => fin H8 (e37.trans e8) H2 n t
end
end Ev
set_option Elab.async false
set_option linter.all false
set_option maxRecDepth 100000
set_option maxHeartbeats 1000000
namespace Ev
open PySem PySem.Spec PyProof.Rows L2 Evl StX LamX NdefX
/-! ### the orders that are handed in as they stand -/
def hdO : List Od := [.back [], .letters [(98, 97), (97, 98)]]
def HdV (H : Hp) (v : V) : Prop := ∃ a t1 t2 l p1 p2, v = .ref a ∧ H a = some (.lst [.ref t1, .ref t2]) ∧ H t1 = some (.tup [.str "back", st []]) ∧ H t2 = some (.tup [.str "letters", .ref l]) ∧ H l = some (.lst [.ref p1, .ref p2]) ∧ H p1 = some (.tup [st [98], st [97]]) ∧ H p2 = some (.tup [st [97], st [98]])
theorem HdV.mono {H H' : Hp} {v : V} (e : Ex H H') (h : HdV H v) : HdV H' v := let ⟨a, t1, t2, l, p1, p2, h0, h1, h2, h3, h4, h5, h6⟩ := h; ⟨a, t1, t2, l, p1, p2, h0, e _ _ h1, e _ _ h2, e _ _ h3, e _ _ h4, e _ _ h5, e _ _ h6⟩
theorem HdV.n {H H' : Hp} {v : V} (e : ExtN H H') (h : HdV H v) : HdV H' v := let ⟨a, t1, t2, l, p1, p2, h0, h1, h2, h3, h4, h5, h6⟩ := h; ⟨a, t1, t2, l, p1, p2, h0, e _ _ h1 (fun _ z => nomatch z), e _ _ h2 (fun _ z => nomatch z), e _ _ h3 (fun _ z => nomatch z), e _ _ h4 (fun _ z => nomatch z), e _ _ h5 (fun _ z => nomatch z), e _ _ h6 (fun _ z => nomatch z)⟩
theorem HdV.odsK {H : Hp} {v : V} (h : HdV H v) : OdsK H v hdO := by
  obtain ⟨a, t1, t2, l, p1, p2, h0, h1, h2, h3, h4, h5, h6⟩ := h
  exact ⟨a, _, h0, h1, .cons ⟨⟨t1, rfl, .inl h2⟩, trivial⟩ (.cons ⟨⟨t2, l, _, rfl, .inl h3, .inl h4, .cons ⟨p1, rfl, .inl h5⟩ (.cons ⟨p2, rfl, .inl h6⟩ .nil)⟩, trivial⟩ .nil)⟩
def hdD : PyData := .list [.tuple [.str "back", .str (S [])], .tuple [.str "letters", .list [.tuple [.str (S [98]), .str (S [97])], .tuple [.str (S [97]), .str (S [98])]]]]
theorem HdV.dp {K : PySem.W.Frag} {H : Hp} {v : V} (h : HdV H v) : Dp K H v hdD := by
  obtain ⟨a, t1, t2, l, p1, p2, rfl, h1, h2, h3, h4, h5, h6⟩ := h
  exact .lst (sq_of h1) (.cons (.tup (rd_t (.inl h2)) (.cons (.str _) (.cons (.str _) .nil))) (.cons (.tup (rd_t (.inl h3)) (.cons (.str _) (.cons (.lst (sq_of h4) (.cons (.tup (rd_t (.inl h5)) (.cons (.str _) (.cons (.str _) .nil))) (.cons (.tup (rd_t (.inl h6)) (.cons (.str _) (.cons (.str _) .nil))) .nil))) .nil))) .nil))
theorem hd_ok : OkOs hdO := fun o ho => by
  simp only [hdO, List.mem_cons, List.not_mem_nil, or_false] at ho
  rcases ho with rfl | rfl
  · show (0 : Nat) ≤ 3; decide
  · exact ⟨by decide, by decide⟩
theorem hd_sg : SgOs hdO := by
  intro c hc
  have : c ∈ [98, 97, 97, 98] := hc
  simp only [List.mem_cons, List.not_mem_nil, or_false] at this
  rcases this with rfl | rfl | rfl | rfl <;> decide
theorem hd_dr : DR [97, 98] 2 1 hdO := ⟨hd_ok, hd_sg, Nat.le_refl _, by decide, fun c hc => by
  have : c ∈ [98, 97, 97, 98] := hc
  simp only [List.mem_cons, List.not_mem_nil, or_false] at this
  rcases this with rfl | rfl | rfl | rfl <;> simp⟩
section
variable {P : Program} {w : World} {K : PySem.W.Frag} {mg : Str → Option Value} {base : Heap}
/-! ### _law_handed -/
theorem sc_handed : FnScope [] [] (defScope (top 52)) := ⟨rfl, rfl, rfl, by decide +kernel, rfl, by decide +kernel, by decide +kernel⟩
def spHanded : Sp := fun vs H Q _ => vs = [] ∧ ∀ v H', Ex H H' → HdV H' v → Q v H'
theorem vE : (V.str "") = st [] := congrArg V.str (by decide +kernel)
theorem ok_handed (F : At K mg 52 "_law_handed") : Df P w K mg base 1 "_law_handed" [] spHanded := by
  refine Df.made (N := []) F sc_handed (fun _ _ _ _ _ _ us hl => match us, hl with | [], _ => rfl) (fun vs H Q E h => ?_) (fun f cdv A outer s H vs Q E hr h => ?_)
  · obtain ⟨rfl, _⟩ := h; rfl
  refine ⟨_, pss_one (ps_ret (pe_lst (pa_cons (pe_tup (pa_cons pe_str (pa_cons pe_str pa_nil))) (pa_cons (pe_tup (pa_cons pe_str (pa_cons (pe_lst (pa_cons (pe_tup (pa_cons pe_str (pa_cons pe_str pa_nil))) (pa_cons (pe_tup (pa_cons pe_str (pa_cons pe_str pa_nil))) pa_nil))) pa_nil))) pa_nil)))), ?_⟩
  obtain ⟨rfl, q⟩ := h
  refine ⟨sz_of (n := 2) (Nat.le_of_ble_eq_true rfl), fun t1 n1 => ⟨sz_of (n := 2) (Nat.le_of_ble_eq_true rfl), fun p1 n2 => ⟨sz_of (n := 2) (Nat.le_of_ble_eq_true rfl), fun p2 n3 => ⟨sz_of (n := 2) (Nat.le_of_ble_eq_true rfl), fun l n4 => ⟨sz_of (n := 2) (Nat.le_of_ble_eq_true rfl), fun t2 n5 => ⟨sz_of (n := 2) (Nat.le_of_ble_eq_true rfl), fun a n6 => ?_⟩⟩⟩⟩⟩⟩
  have e1 := Ex.new (o := HO.tup [.str "back", .str ""]) n1
  have e2 := Ex.new (o := HO.tup [.str "b", .str "a"]) n2
  have e3 := Ex.new (o := HO.tup [.str "a", .str "b"]) n3
  have e4 := Ex.new (o := HO.lst [.ref p1, .ref p2]) n4
  have e5 := Ex.new (o := HO.tup [.str "letters", .ref l]) n5
  have e6 := Ex.new (o := HO.lst [.ref t1, .ref t2]) n6
  refine q _ _ (((((e1.trans e2).trans e3).trans e4).trans e5).trans e6) ⟨a, t1, t2, l, p1, p2, rfl, upd_same, ?_, e6 _ _ upd_same, e6 _ _ (e5 _ _ upd_same), ?_, ?_⟩
  · rw [← vE]; exact e6 _ _ (e5 _ _ (e4 _ _ (e3 _ _ (e2 _ _ upd_same))))
  · rw [← vA, ← vB]; exact e6 _ _ (e5 _ _ (e4 _ _ (e3 _ _ upd_same)))
  · rw [← vA, ← vB]; exact e6 _ _ (e5 _ _ (e4 _ _ upd_same))
end
end Ev
set_option Elab.async false
set_option linter.all false
set_option maxRecDepth 100000
set_option maxHeartbeats 1000000
namespace Ev
open PySem PySem.Spec PyProof.Rows L2 Evl StX LamX NdefX
def EvTX (T : List NTab) (t : TT) (σ : L2.St) (H : Hp) (b : Bool) : Prop := ∀ H1, ExtN H H1 → TabsN T H1 → ∀ Q : Bool → Hp → Prop, (∀ H2, ExtN H1 H2 → TabsN T H2 → Q b H2) → t σ H1 Q
section
variable {T : List NTab} {σ : L2.St} {H : Hp} {te : TE} {t u : TT} {D : Ends} {tu tz : TS}
theorem etx_test {b : Bool} (h : EvX T te σ H (.bl b)) : EvTX T (tTest te) σ H b := fun H1 e t Q q => h H1 e t _ fun H2 e2 t2 => ⟨b, rfl, q H2 e2 t2⟩
theorem etx_or {b : Bool} (h1 : EvTX T t σ H false) (h2 : EvTX T u σ H b) : EvTX T (tOr t u) σ H b := fun H1 e t Q q => h1 H1 e t _ fun H2 e2 t2 => by
  show (if false = true then _ else _ : Prop)
  rw [if_neg Bool.false_ne_true]
  exact h2 H2 (e.trans e2) t2 Q fun H3 e3 t3 => q H3 (e2.trans e3) t3
theorem q_whenTX (h : EvTX T t σ H false) (ht : TabsN T H) (k : ∀ H1, ExtN H H1 → TabsN T H1 → tz D σ H1) : tSeq (tIfS t tu tNext) tz D σ H := h H (ExtN.refl H) ht _ fun H1 e1 t1 => by
  show (if false = true then _ else _ : Prop)
  rw [if_neg Bool.false_ne_true]
  exact k H1 e1 t1
def rIsB : R2 := fun x y H Q => ∃ a b, x = .bl a ∧ y = .bl b ∧ Q (.bl (!decide (a = b))) H
theorem rv_isnotB {a b : Bool} : RV rIsB (.bl a) (.bl b) H (.bl (!decide (a = b))) := fun H1 _ Q q => ⟨a, b, rfl, rfl, q H1 (Ex.refl H1)⟩
end
theorem op_isnotB {X : Cx} : OpR X (compareOp .IsNot) rIsB := op_isnot_bl
section
variable {P : Program} {w : World} {K : PySem.W.Frag} {mg : Str → Option Value} {base : Heap}
section
variable {σ : L2.St} {H : Hp} {ta tb : TE} {E : XK}
theorem ev_settled1 {v : V} {os : List Od} {r : Option Tx} (h1 : Ev ta σ H v) (hv : OdsL H v os) (T : Two (os ++ os) os) (h : fuM (os ++ os) os = some r) : Ev (tCall spSettled [] E (tCons ta tNil)) σ H (.bl (decide (r = none))) := ev_call (ea_cons h1 ea_nil) (spv_Settled hv T h)
theorem ep_hd : EvP (tCall spHanded [] E tNil) σ H HdV := fun H1 e Q q => ⟨rfl, fun v H2 e2 h => q v H2 e2 h⟩
theorem HdV.odsL {v : V} (h : HdV H v) : OdsL H v hdO := h.odsK.odsL
theorem er_hd : EvR (tCall spHanded [] E tNil) σ H hdO := fun H1 e Q q => ⟨rfl, fun v H2 e2 h => q v H2 e2 h.odsL⟩
end
section
variable {σ : L2.St} {H : Hp} {ta tb : TE} {E : XK} {os ps : List Od} {r : Option Tx}
theorem ev_commute2 (h1 : EvR ta σ H os) (h2 : EvR tb σ H ps) (T : Two (os ++ ps) (ps ++ os)) (h : fuM (os ++ ps) (ps ++ os) = some r) : Ev (tCall spCommute [] E (tCons ta (tCons tb tNil))) σ H (.bl (decide (r = none))) := fun H1 e Q q =>
  h1 H1 e _ fun x H2 e2 hx => h2 H2 (e.trans e2) _ fun y H3 e3 hy => spv_Commute (hx.mono e3) hy T h H3 (Ex.refl H3) Q (fun H4 e4 => q H4 ((e2.trans e3).trans e4)) E
theorem ev_undoes2 (h1 : EvR ta σ H os) (h2 : EvR tb σ H ps) (T : Two (os ++ ps) []) (h : fuM (os ++ ps) [] = some r) : Ev (tCall spUndoes [] E (tCons ta (tCons tb tNil))) σ H (.bl (decide (r = none))) := fun H1 e Q q =>
  h1 H1 e _ fun x H2 e2 hx => h2 H2 (e.trans e2) _ fun y H3 e3 hy => spv_Undoes (hx.mono e3) hy T h H3 (Ex.refl H3) Q (fun H4 e4 => q H4 ((e2.trans e3).trans e4)) E
end
/-! ### _law_handed_right -/
theorem vAB : (V.str "ab") = st [97, 98] := congrArg V.str (by decide +kernel)
theorem vBA : (V.str "ba") = st [98, 97] := congrArg V.str (by decide +kernel)
theorem sc_hright : FnScope ["_law_handed_here"] [] (defScope (top 53)) := ⟨rfl, rfl, rfl, by decide +kernel, rfl, by decide +kernel, by decide +kernel⟩
def spHRight (T : List NTab) : Sp := fun vs H Q _ => vs = [] ∧ TabsN T H ∧ ∀ H', ExtN H H' → TabsN T H' → Q (.bl true) H'
def ffO : List Od := [.front [97]]
def f1O : List Od := [.first 1]
theorem ff_dr : DR [97] 1 1 ffO := ⟨fun o ho => by
  rw [List.mem_singleton.mp ho]; show (1 : Nat) ≤ 3; decide, fun c hc => by
  have : c ∈ [97] := hc
  rw [List.mem_singleton.mp this]; decide, Nat.le_refl _, by decide, fun c hc => hc⟩
theorem f1_dr : DR [97] 1 2 f1O := ⟨fun o ho => by
  rw [List.mem_singleton.mp ho]; show (1 : Nat) ≤ 2; decide, (fun c hc => by
  have : c ∈ ([] : List Nat) := hc
  cases this), Nat.le_refl _, by decide, fun c hc => by
  have : c ∈ ([] : List Nat) := hc
  cases this⟩
theorem ok_hright {T : List NTab} (F : At K mg 53 "_law_handed_right") (DH : Df P w K mg base 1 "_law_handed" [] spHanded) (DU : Df P w K mg base 7 "unlike_line" ["one", "other"] spUnlike) (DA : Df P w K mg base 8 "alike_lines" ["one", "other"] spAlike) (DP : Df P w K mg base 6 "played" ["orders", "line"] spPlayed)
    (DC : Df P w K mg base 7 "commute_lines" ["one", "other"] spCommute) (DN : Df P w K mg base 7 "undoes" ["one", "other"] spUndoes) (DI : Df P w K mg base 7 "idle_lines" ["orders"] spIdle) (DE : Df P w K mg base 7 "settled" ["orders"] spSettled)
    (DS : Df P w K mg base 7 "source" ["orders", "line"] (spSource T)) (DW : Df P w K mg base 7 "shows" ["orders", "word"] (spShows T)) : Df P w K mg base 9 "_law_handed_right" [] (spHRight T) := by
  refine Df.made (N := ["_law_handed_here"]) F sc_hright (fun _ _ _ _ _ _ us hl => match us, hl with | [], _ => rfl) (fun vs H Q E h => ?_) (fun f cdv A outer s H vs Q E hr h => ?_)
  · obtain ⟨rfl, _⟩ := h; rfl
  refine ⟨_, pss_cons (ps_set (i := 0) sc_hright.nd rfl (.inl rfl) (pe_df0 DH hr (by decide) (by rfl)))
    (pss_cons (ps_if (PW.pt (pw_or (pt_cmpR op_ne (pe_df DP hr (by decide) (by rfl) (pa_cons (pv 0) (pa_cons pe_str pa_nil))) pe_str (nomark _)) (pw_or (pt_cmpR op_notN1 (pe_df DU hr (by decide) (by rfl) (pa_cons (pv 0) (pa_cons (pe_df0 DH hr (by decide) (by rfl)) pa_nil))) pe_non (nomark _))
        (pw_or1 (pt_cmpR op_ne (pe_df DU hr (by decide) (by rfl) (pa_cons (pe_lst pa_nil) (pa_cons (pv 0) pa_nil))) pe_str (nomark _)))))) (pss_one (ps_ret pe_bl)) pss_nil)
    (pss_cons (ps_if (PW.pt (pw_or (pt_cmpR op_isnotB (pe_df DA hr (by decide) (by rfl) (pa_cons (pv 0) (pa_cons (pe_df0 DH hr (by decide) (by rfl)) pa_nil))) pe_bl (nomark _)) (pw_or1 (pt_cmpR op_isnotB (pe_df DA hr (by decide) (by rfl) (pa_cons (pv 0) (pa_cons (pe_lst pa_nil) pa_nil))) pe_bl (nomark _))))) (pss_one (ps_ret pe_bl)) pss_nil)
    (pss_cons (ps_if (PW.pt (pw_or (pt_cmpR op_isnotB (pe_df DC hr (by decide) (by rfl) (pa_cons (pv 0) (pa_cons (pv 0) pa_nil))) pe_bl (nomark _)) (pw_or1 (pt_cmpR op_isnotB (pe_df DN hr (by decide) (by rfl) (pa_cons (pv 0) (pa_cons (pv 0) pa_nil))) pe_bl (nomark _))))) (pss_one (ps_ret pe_bl)) pss_nil)
    (pss_cons (ps_if (PW.pt (pw_or (pt_cmpR op_isnotB (pe_df DI hr (by decide) (by rfl) (pa_cons (pv 0) pa_nil)) pe_bl (nomark _)) (pw_or1 (pt_cmpR op_isnotB (pe_df DE hr (by decide) (by rfl) (pa_cons (pv 0) pa_nil)) pe_bl (nomark _))))) (pss_one (ps_ret pe_bl)) pss_nil)
    (pss_cons (ps_if (PW.pt (pw_or (pt_not (pt_val (pe_df DN hr (by decide) (by rfl) (pa_cons (pe_lst (pa_cons (pe_tup (pa_cons pe_str (pa_cons pe_str pa_nil))) pa_nil)) (pa_cons (pe_lst (pa_cons (pe_tup (pa_cons pe_str (pa_cons pe_int pa_nil))) pa_nil)) pa_nil)))))
        (pw_or1 (pt_val (pe_df DN hr (by decide) (by rfl) (pa_cons (pe_lst (pa_cons (pe_tup (pa_cons pe_str (pa_cons pe_int pa_nil))) pa_nil)) (pa_cons (pe_lst (pa_cons (pe_tup (pa_cons pe_str (pa_cons pe_str pa_nil))) pa_nil)) pa_nil))))))) (pss_one (ps_ret pe_bl)) pss_nil)
    (pss_cons (ps_if (PW.pt (pw_or (pt_cmpR op_ne (pe_df DS hr (by decide) (by rfl) (pa_cons (pv 0) (pa_cons pe_str pa_nil))) pe_str (nomark _)) (pw_or1 (pt_cmpR op_ne (pe_df DW hr (by decide) (by rfl) (pa_cons (pv 0) (pa_cons pe_str pa_nil))) pe_str (nomark _))))) (pss_one (ps_ret pe_bl)) pss_nil)
    (pss_one (ps_ret (pe_cmpR (op_eqD hr.units) (pv 0) (pe_df0 DH hr (by decide) (by rfl)) (nomark _)))))))))), ?_⟩
  obtain ⟨rfl, hT, q⟩ := h
  have h1 : fuM hdO hdO = some none := by decide +kernel
  have h2 : fuM [] hdO = some (some [97]) := by decide +kernel
  have h3 : fuM hdO [] = some (some [97]) := by decide +kernel
  have h4 : fuM (hdO ++ hdO) (hdO ++ hdO) = some none := by decide +kernel
  have h5 : fuM (hdO ++ hdO) [] = some none := by decide +kernel
  have h6 : fuM (hdO ++ hdO) hdO = some (some [97]) := by decide +kernel
  have h7 : fuM (ffO ++ f1O) [] = some none := by decide +kernel
  have h8 : fuM (f1O ++ ffO) [] = some (some []) := by decide +kernel
  have s1 : srcM hdO [97, 98] = some (some [98, 97]) := by decide +kernel
  have s2 : showM hdO [97, 98] = some (some [98, 97]) := by decide +kernel
  have T1 := two_of hd_dr hd_dr
  have T0 := two_of (DR.nil (L := [97, 98])) hd_dr
  have T0' := two_of hd_dr (DR.nil (L := [97, 98]))
  have hh := hd_dr.app hd_dr
  have sAB : AllSg [97, 98] := by intro c hc; simp only [List.mem_cons, List.not_mem_nil, or_false] at hc; rcases hc with rfl | rfl <;> decide
  refine q_asgP (R := HdV) ep_hd fun v H1 e1 hv => ?_
  have hvL := hv.odsL
  refine q_when (b := false) (et_is (et_or (a := !decide (st (playedM hdO [97, 98]) = st [98, 97])) (et_test (ev_op (ev_call (ea_cons (ev_var rfl) (ea_cons (ev_is ev_c vAB) ea_nil)) (spv_played hv.odsK.odsT hd_ok hd_sg sAB (by decide))) (ev_is ev_c vBA) (rv_ne rfl))) fun _ =>
    et_or (a := !decide ((none : Option Tx) = none)) (et_test (ev_op (ev_unlike2 (er_var rfl hvL) er_hd T1 h1) ev_c rv_notNone')) fun _ => et_test (ev_op (ev_unlike2 er_nil (er_var rfl hvL) T0 h2) (ev_is ev_c vA) (rv_ne rfl))) (by decide +kernel)) (fun h => nomatch h) fun _ H2 e2 => ?_
  refine q_when (b := false) (et_is (et_or (a := !decide (decide ((none : Option Tx) = none) = true)) (et_test (ev_op (ev_alike2 (er_var rfl (hvL.mono e2)) er_hd T1 h1) ev_c rv_isnotB)) fun _ => et_test (ev_op (ev_alike2 (er_var rfl (hvL.mono e2)) er_nil T0' h3) ev_c rv_isnotB)) (by decide +kernel)) (fun h => nomatch h) fun _ H3 e3 => ?_
  have hv3 := (hvL.mono e2).mono e3
  refine q_when (b := false) (et_is (et_or (a := !decide (decide ((none : Option Tx) = none) = true)) (et_test (ev_op (ev_commute2 (er_var rfl hv3) (er_var rfl hv3) (two_of hh hh) h4) ev_c rv_isnotB)) fun _ => et_test (ev_op (ev_undoes2 (er_var rfl hv3) (er_var rfl hv3) (two_of hh (DR.nil (L := [97, 98]))) h5) ev_c rv_isnotB)) (by decide +kernel)) (fun h => nomatch h) fun _ H4 e4 => ?_
  have hv4 := hv3.mono e4
  refine q_when (b := false) (et_is (et_or (a := !decide (decide ((some [97] : Option Tx) = none) = false)) (et_test (ev_op (ev_idle1 (er_var rfl hv4) T0' h3) ev_c rv_isnotB)) fun _ => et_test (ev_op (ev_settled1 (ev_var rfl) hv4 (two_of hh hd_dr) h6) ev_c rv_isnotB)) (by decide +kernel)) (fun h => nomatch h) fun _ H5 e5 => ?_
  have hff : ∀ {σ : L2.St} {G : Hp}, EvR (tLst (tCons (tTup (tCons (tC (.str "front")) (tCons (tC (.str "a")) tNil))) tNil)) σ G ffO := ep_ods (epl_cons mo_od (ep_front ev_c (ev_is ev_c vA)) epl_nil) (Nat.le_of_ble_eq_true rfl)
  have hf1 : ∀ {σ : L2.St} {G : Hp}, EvR (tLst (tCons (tTup (tCons (tC (.str "first")) (tCons (tC (.int 1)) tNil))) tNil)) σ G f1O := ep_ods (epl_cons mo_od (ep_first (n := 1) ev_c ev_c) epl_nil) (Nat.le_of_ble_eq_true rfl)
  refine q_when (b := false) (et_is (et_or (a := !decide ((none : Option Tx) = none)) (et_not (et_B (ev_undoes2 hff hf1 (two_of (ff_dr.app f1_dr) (DR.nil (L := [97]))) h7))) fun _ => et_B (ev_undoes2 hf1 hff (two_of (f1_dr.app ff_dr) (DR.nil (L := [97]))) h8)) (by decide +kernel)) (fun h => nomatch h) fun _ H6 e6 => ?_
  have e16 := (((e2.trans e3).trans e4).trans e5).trans e6
  have hv6 := hvL.mono e16
  have hT6 := tabs_ex (e1.trans e16) hT
  have O := one_of hd_dr (by decide) sAB (by decide) (by decide)
  have xs : ∀ {l : Tx} {y : V} {G : Hp} {σ : L2.St}, y = st l → EvX T (tC y) σ G (st l) := fun e => by rw [e]; exact ex_c
  have x1 := ex_op (T := T) (σ := [some v]) (H := H6) (ex_src (E := E0) (ex_var (i := 0) rfl) (xs vAB) hv6 O s1) (xs vBA) (fun G => rv_ne (x := rV (some [98, 97])) (y := st [98, 97]) rfl)
  have x2 := ex_op (T := T) (σ := [some v]) (H := H6) (ex_show (E := E0) (ex_var (i := 0) rfl) (xs vAB) hv6 O (by decide) (by decide) s2) (xs vBA) (fun G => rv_ne (x := rV (some [98, 97])) (y := st [98, 97]) rfl)
  refine q_whenTX (T := T) (H := H6) (etx_or (etx_test x1) (etx_test x2)) hT6 fun H7 e7 t7 => ?_
  have hv7 := HdV.n e7 (hv.mono e16)
  refine ⟨v, rfl, rfl, fun u H8 e8 hu => ?_⟩
  refine (rv_eqD (d := hdD) (d' := hdD) (fun G e => (hv7.mono (e8.trans e)).dp) (fun G e => (hu.mono e).dp) (by decide +kernel) (by decide +kernel) (by decide +kernel : PyData.eqv hdD hdD = true)) H8 (Ex.refl H8) _ fun H9 e9 => q H9 (((Ex.n (e1.trans e16)).trans e7).trans (Ex.n (e8.trans e9))) (tabs_ex (e8.trans e9) t7)
end
end Ev
set_option Elab.async false
set_option linter.all false
set_option maxRecDepth 100000
set_option maxHeartbeats 1000000
namespace Ev
open PySem PySem.Spec PyProof.Rows L2 Evl StX LamX NdefX
/-! ### calls by the parameters' names -/
def AtK (K : PySem.W.Frag) (mg : Str → Option Value) (i : Nat) (x : Str) : Prop :=
  ∃ (f : Addr) (oc : Value) (od : Option Addr) (kV doc pm : Value) (an : Option Addr) (cdv ct : Value) (osl : Array (Option Value)), mg x = some (.ref f) ∧ K.lookup f = some ⟨oc, od, .func (PySem.W.fnOf x x (defArgs (top i)) (defBody (top i)) (defScope (top i)) .none kV doc pm an cdv ct), osl⟩
theorem At.k {K : PySem.W.Frag} {mg : Str → Option Value} {i : Nat} {x : Str} (F : At K mg i x) : AtK K mg i x := by
  obtain ⟨f, fd, F, g⟩ := F
  obtain ⟨oc, od, dV, kV, doc, pm, an, cdv, ct, osl, rfl, lk, hcd, hD, hK⟩ := F.ex
  rcases hD with ⟨_, rfl⟩ | ⟨e, _⟩
  · exact ⟨f, oc, od, kV, doc, pm, an, cdv, ct, osl, g, lk⟩
  · exact absurd rfl e
theorem AtC.k {K : PySem.W.Frag} {mg : Str → Option Value} {i : Nat} {x : Str} {c : Addr} (F : AtC K mg i x c) : AtK K mg i x := by
  obtain ⟨f, oc, od, dV, kV, doc, pm, an, ct, osl, g, lk, hcd, hD, hK, kp⟩ := F
  rcases hD with ⟨_, rfl⟩ | ⟨e, _⟩
  · exact ⟨f, oc, od, kV, doc, pm, an, .ref c, ct, osl, g, lk⟩
  · exact absurd rfl e
theorem vals_rev : ∀ {xs : List V} {us : List Value}, Vals xs us → Vals xs.reverse us.reverse
  | _, _, .nil => .nil
  | _, _, .cons r t => by
    rw [List.reverse_cons, List.reverse_cons]
    exact (vals_rev t).append (.cons r .nil)
def tKw (sp : Sp) (tk : TA) : TE := fun σ H Q => tk σ H fun zs H2 => sp zs.reverse H2 Q E0
section
variable {X : Cx} {k j i : Nat} {x : Str} {ps ks : List Str} {sp : Sp} {p pos : Pos} {kws : List Keyword} {tk : TA}
theorem pe_kw (D : Df X.prog X.w X.K X.mg X.base k x ps sp) (At : AtK X.K X.mg i x) (hr : Room j X.A) (hk : k ≤ j) (hg : Gl X x) (hkw : PK X kws tk)
    (hb : ∀ (kV doc pm : Value) (an : Option Addr) (cdv ct : Value) (ws : List Value), ws.length = ps.length → bindArgs (PySem.W.fnOf x x (defArgs (top i)) (defBody (top i)) (defScope (top i)) .none kV doc pm an cdv ct) ⟨[], ks.zip ws⟩ = pure (ps.zip ws.reverse))
    (hall : (backToKw pos (keywordEach kws X.env)).all (·.1.isSome) = true := by rfl) (hks : (backToKw pos (keywordEach kws X.env)).filterMap (·.1) = ks := by rfl) (hdb : (x == ("__debug__" : Str)) = false := by decide)
    (hpl : ((backTo pos (starEach [] X.env)).any (·.1) || (backToKw pos (keywordEach kws X.env)).any (·.1.isNone)) = false := by rfl) : PE X (.Call (.Name x p) [] kws pos) (tKw sp tk) := by
  obtain ⟨f, fd, F, g, kp, _, i', FD⟩ := D.ex
  obtain ⟨f', oc, od, kV, doc, pm, an, cdv, ct, osl, g', lk⟩ := At
  rw [g] at g'
  obtain rfl : f = f' := by cases g'; rfl
  obtain ⟨oc2, od2, dV2, kV2, doc2, pm2, an2, cdv2, ct2, osl2, rfl, lk2, _⟩ := FD.ex
  have efd := lk2.symm.trans lk
  have efd2 : PySem.W.fnOf x x (defArgs (top i')) (defBody (top i')) (defScope (top i')) dV2 kV2 doc2 pm2 an2 cdv2 ct2 = PySem.W.fnOf x x (defArgs (top i)) (defBody (top i)) (defScope (top i)) .none kV doc pm an cdv ct := by
    have := congrArg (fun o : Option Obj => o.map (·.data)) efd
    simpa using this
  rw [efd2] at F
  refine ⟨fun pins s σ H Q I h => ?_⟩
  refine wpAny_Call_Name_kw (ld_glob I hg g ?_ hdb)
  refine PySem.W.callWith_KW0 (h₀ := X.base) I.ok.mod.kin kp hall (thn (hkw.run pos pins s σ H _ I h) fun ws s1 ⟨zs, H1, I1, r, q⟩ => ⟨I1.kIn, ?_⟩) hpl
  rw [hks]
  have r2 := vals_rev r
  have hl : ws.length = ps.length := by
    rw [← List.length_reverse, ← r2.length]
    exact F.len _ _ _ _ q
  refine wpAny_call (codeAny_mono (F.run X.A X.stack s1 H1 ⟨[], ks.zip ws⟩ ws.reverse zs.reverse Q E0 (hr.mono hk) I1.env0 (.of_eq (hb _ _ _ _ _ _ _ hl)) r2 q) fun r s' hq => ?_)
  cases r with
  | error e => exact (show False from hq).elim
  | ok fl =>
    cases fl with
    | ret u => exact I1.after hq
    | next => exact (show False from hq).elim
    | brk => exact (show False from hq).elim
    | cont => exact (show False from hq).elim
end
section
variable {T : List NTab} {σ : L2.St} {H : Hp} {ta tb : TE} {tk : TA} {v z : V} {os : List Od} {w : Tx} {r : Option Tx} {sp : Sp} {zs : List V}
theorem ev_kw (h : EvA tk σ H zs) (hs : SpV sp zs.reverse H z) : Ev (tKw sp tk) σ H z := fun H1 e Q q => h H1 e _ fun H2 e2 => hs H2 (e.trans e2) Q (fun H3 e3 => q H3 (e2.trans e3)) E0
theorem ex_srcK (hb : EvX T tb σ H (st w)) (ha : EvX T ta σ H v) (hv : OdsL H v os) (O : One os w) (h : srcM os w = some r) : EvX T (tKw (spSource T) (tCons tb (tCons ta tNil))) σ H (rV r) := fun H1 e t Q q =>
  hb H1 e t _ fun H2 e2 t2 => ha H2 (e.trans e2) t2 _ fun H3 e3 t3 => ⟨v, os, w, r, rfl, hv.n ((e.trans e2).trans e3), t3, O, h, fun H4 e4 t4 => q H4 ((e2.trans e3).trans e4) t4⟩
theorem ex_showK (hb : EvX T tb σ H (st w)) (ha : EvX T ta σ H v) (hv : OdsL H v os) (O : One os w) (h1 : 1 ≤ w.length) (h4 : w.length ≤ 4) (h : showM os w = some r) : EvX T (tKw (spShows T) (tCons tb (tCons ta tNil))) σ H (rV r) := fun H1 e t Q q =>
  hb H1 e t _ fun H2 e2 t2 => ha H2 (e.trans e2) t2 _ fun H3 e3 t3 => ⟨v, os, w, r, rfl, hv.n ((e.trans e2).trans e3), t3, O, h1, h4, h, fun H4 e4 t4 => q H4 ((e2.trans e3).trans e4) t4⟩
theorem etx_of {t : TT} {b : Bool} (h : ∀ H1, ExtN H H1 → EvT t σ H1 b) : EvTX T t σ H b := fun H1 e t Q q => h H1 e H1 (Ex.refl H1) Q fun H2 e2 => q H2 (Ex.n e2) (tabs_ex e2 t)
theorem rv_neR : RV rNe (rV r) (rV r) H (.bl false) := by
  have h := rv_ne (H := H) (x := rV r) (y := rV r) (scal_rV r r)
  rw [decide_eq_true rfl] at h
  exact h
theorem rv_eqR : RV rEq (rV r) (rV r) H (.bl true) := by
  have h := rv_eq (H := H) (x := rV r) (y := rV r) (scal_rV r r)
  rw [decide_eq_true rfl] at h
  exact h
theorem rv_neB1 {b : Bool} : RV rNe (.bl b) (.bl b) H (.bl false) := by
  have h := rv_neB (H := H) (a := b) (b := b)
  rw [decide_eq_true rfl] at h
  exact h
theorem rv_neS1 {x : Tx} : RV rNe (st x) (st x) H (.bl false) := by
  have h := rv_ne (H := H) (x := st x) (y := st x) rfl
  rw [decide_eq_true rfl] at h
  exact h
end
section
variable {P : Program} {w : World} {K : PySem.W.Frag} {mg : Str → Option Value} {base : Heap}
/-! ### _law_named -/
theorem sc_named : FnScope ["_law_one_it", "_law_other_it", "_law_line_it", "_law_word_it"] ["_law_one_it", "_law_other_it"] (defScope (top 54)) := ⟨rfl, rfl, rfl, by decide +kernel, rfl, by decide +kernel, by decide +kernel⟩
def spNamed (T : List NTab) : Sp := fun vs H Q _ => ∃ (v u : V) (one other : List Od) (L : Tx), vs = [v, u] ∧ OdsK H v one ∧ OdsK H u other ∧ DR L 1 28 one ∧ DR L 1 3 other ∧ L.length ≤ 20 ∧ TabsN T H ∧ ∀ H', ExtN H H' → TabsN T H' → Q (.bl true) H'
theorem vABA : (V.str "ab a") = st [97, 98, 32, 97] := congrArg V.str (by decide +kernel)
theorem DR.more {L : Tx} {m b : Nat} {os : List Od} (D : DR L m b os) (M : Tx) : DR (M ++ L) m b os := ⟨D.ok, D.sg, D.len, D.nn, fun c hc => List.mem_append_right _ (D.nm c hc)⟩
theorem ok_named {T : List NTab} (F : At K mg 54 "_law_named") (DU : Df P w K mg base 7 "unlike_line" ["one", "other"] spUnlike) (DA : Df P w K mg base 8 "alike_lines" ["one", "other"] spAlike) (DP : Df P w K mg base 6 "played" ["orders", "line"] spPlayed)
    (DC : Df P w K mg base 7 "commute_lines" ["one", "other"] spCommute) (DN : Df P w K mg base 7 "undoes" ["one", "other"] spUndoes) (DI : Df P w K mg base 7 "idle_lines" ["orders"] spIdle) (DE : Df P w K mg base 7 "settled" ["orders"] spSettled)
    (DS : Df P w K mg base 7 "source" ["orders", "line"] (spSource T)) (DW : Df P w K mg base 7 "shows" ["orders", "word"] (spShows T))
    (KU : AtK K mg 27 "unlike_line") (KA : AtK K mg 28 "alike_lines") (KP : AtK K mg 16 "played") (KC : AtK K mg 29 "commute_lines") (KN : AtK K mg 32 "undoes") (KI : AtK K mg 30 "idle_lines") (KE : AtK K mg 31 "settled") (KS : AtK K mg 34 "source") (KW : AtK K mg 35 "shows") :
    Df P w K mg base 9 "_law_named" ["_law_one_it", "_law_other_it"] (spNamed T) := by
  have hb2 : ∀ {α : Prop} (ws : List Value), ws.length = 2 → (∀ a b, ws = [a, b] → α) → α := fun ws h k => match ws, h with | [a, b], _ => k a b rfl
  refine Df.made (N := ["_law_one_it", "_law_other_it", "_law_line_it", "_law_word_it"]) F sc_named (fun _ _ _ _ _ _ us hl => match us, hl with | [_, _], _ => rfl) (fun vs H Q E h => ?_) (fun f cdv A outer s H vs Q E hr h => ?_)
  · obtain ⟨v, u, _, _, _, rfl, _⟩ := h; rfl
  refine ⟨_, pss_cons (ps_asg (g := g2 K 2 3) (pe_tup (pa_cons pe_str (pa_cons pe_str pa_nil))) (pg_tup rfl (pgs_cons (pg_name (i := 2) sc_named.nd rfl (.inl rfl)) (pgs_cons (pg_name (i := 3) sc_named.nd rfl (.inl rfl)) pgs_nil))))
    (pss_cons (ps_if (PW.pt (pw_or (pt_cmpR op_ne (pe_kw (ks := ["line", "orders"]) DP KP hr (by decide) (by rfl) (pk_cons (pv 2) (pk_cons (pv 0) pk_nil)) (fun _ _ _ _ _ _ ws hl => match ws, hl with | [_, _], _ => rfl)) (pe_df DP hr (by decide) (by rfl) (pa_cons (pv 0) (pa_cons (pv 2) pa_nil))) (nomark _))
        (pw_or1 (pt_cmpR op_ne (pe_kw (ks := ["other", "one"]) DU KU hr (by decide) (by rfl) (pk_cons (pv 1) (pk_cons (pv 0) pk_nil)) (fun _ _ _ _ _ _ ws hl => match ws, hl with | [_, _], _ => rfl)) (pe_df DU hr (by decide) (by rfl) (pa_cons (pv 0) (pa_cons (pv 1) pa_nil))) (nomark _))))) (pss_one (ps_ret pe_bl)) pss_nil)
    (pss_cons (ps_if (PW.pt (pw_or (pt_cmpR op_ne (pe_kw (ks := ["other", "one"]) DA KA hr (by decide) (by rfl) (pk_cons (pv 1) (pk_cons (pv 0) pk_nil)) (fun _ _ _ _ _ _ ws hl => match ws, hl with | [_, _], _ => rfl)) (pe_df DA hr (by decide) (by rfl) (pa_cons (pv 0) (pa_cons (pv 1) pa_nil))) (nomark _))
        (pw_or1 (pt_cmpR op_ne (pe_kw (ks := ["other", "one"]) DC KC hr (by decide) (by rfl) (pk_cons (pv 1) (pk_cons (pv 0) pk_nil)) (fun _ _ _ _ _ _ ws hl => match ws, hl with | [_, _], _ => rfl)) (pe_df DC hr (by decide) (by rfl) (pa_cons (pv 0) (pa_cons (pv 1) pa_nil))) (nomark _))))) (pss_one (ps_ret pe_bl)) pss_nil)
    (pss_cons (ps_if (PW.pt (pw_or (pt_cmpR op_ne (pe_kw (ks := ["other", "one"]) DN KN hr (by decide) (by rfl) (pk_cons (pv 1) (pk_cons (pv 0) pk_nil)) (fun _ _ _ _ _ _ ws hl => match ws, hl with | [_, _], _ => rfl)) (pe_df DN hr (by decide) (by rfl) (pa_cons (pv 0) (pa_cons (pv 1) pa_nil))) (nomark _))
        (pw_or1 (pt_cmpR op_ne (pe_kw (ks := ["orders"]) DI KI hr (by decide) (by rfl) (pk_cons (pv 0) pk_nil) (fun _ _ _ _ _ _ ws hl => match ws, hl with | [_], _ => rfl)) (pe_df DI hr (by decide) (by rfl) (pa_cons (pv 0) pa_nil)) (nomark _))))) (pss_one (ps_ret pe_bl)) pss_nil)
    (pss_cons (ps_if (PW.pt (pw_or (pt_cmpR op_ne (pe_kw (ks := ["orders"]) DE KE hr (by decide) (by rfl) (pk_cons (pv 1) pk_nil) (fun _ _ _ _ _ _ ws hl => match ws, hl with | [_], _ => rfl)) (pe_df DE hr (by decide) (by rfl) (pa_cons (pv 1) pa_nil)) (nomark _))
        (pw_or1 (pt_cmpR op_ne (pe_kw (ks := ["line", "orders"]) DS KS hr (by decide) (by rfl) (pk_cons (pv 3) (pk_cons (pv 0) pk_nil)) (fun _ _ _ _ _ _ ws hl => match ws, hl with | [_, _], _ => rfl)) (pe_df DS hr (by decide) (by rfl) (pa_cons (pv 0) (pa_cons (pv 3) pa_nil))) (nomark _))))) (pss_one (ps_ret pe_bl)) pss_nil)
    (pss_one (ps_ret (pe_cmpR op_eq (pe_kw (ks := ["word", "orders"]) DW KW hr (by decide) (by rfl) (pk_cons (pv 3) (pk_cons (pv 0) pk_nil)) (fun _ _ _ _ _ _ ws hl => match ws, hl with | [_, _], _ => rfl)) (pe_df DW hr (by decide) (by rfl) (pa_cons (pv 0) (pa_cons (pv 3) pa_nil))) (nomark _)))))))), ?_⟩
  obtain ⟨v, u, one, other, L, rfl, hv, hu, D1, D2, hL, hT, q⟩ := h
  have hL5 : L.length ≤ 25 := Nat.le_trans hL (by decide)
  have D12 := D1.app D2
  have D21 := D2.app D1
  have D22 := D2.app D2
  obtain ⟨r1, f1, F1⟩ := fu_of hL5 D1 D2
  obtain ⟨r2, f2, F2⟩ := fu_of hL5 D12 D21
  obtain ⟨r3, f3, F3⟩ := fu_of hL5 D12 (DR.nil (L := L))
  obtain ⟨r4, f4, F4⟩ := fu_of hL5 D1 (DR.nil (L := L))
  obtain ⟨r5, f5, F5⟩ := fu_of hL5 D22 D2
  have sl : AllSg [97, 98, 32, 97] := by intro c hc; simp only [List.mem_cons, List.not_mem_nil, or_false] at hc; rcases hc with rfl | rfl | rfl | rfl <;> decide
  have sw : AllSg [98, 97] := by intro c hc; simp only [List.mem_cons, List.not_mem_nil, or_false] at hc; rcases hc with rfl | rfl <;> decide
  have hL7 : ([98, 97] ++ L).length ≤ 25 := by simp only [List.length_append, List.length_cons, List.length_nil]; omega
  obtain ⟨s1, g1, S1⟩ := src_of hL7 (D1.more [98, 97]) sw fun c hc => List.mem_append_left _ hc
  obtain ⟨s2, g2, S2⟩ := show_of hL7 (D1.more [98, 97]) sw (by simp) fun c hc => List.mem_append_left _ hc
  have p1 := pow3_le6 one 1 D1.len
  refine ⟨sz_of (n := 2) (Nat.le_of_ble_eq_true rfl), fun a na => ⟨a, _, rfl, rd_t (.inl upd_same), rfl, _, _, rfl, _, _, rfl, rfl, ?_⟩⟩
  have e1 : Ex H (L2.upd H a (.tup [.str "ab a", .str "ba"])) := Ex.new na
  have hv1 := hv.mono e1
  have hu1 := (hu.mono e1).odsL
  have pl : ∀ {G : Hp}, Ex (L2.upd H a (.tup [.str "ab a", .str "ba"])) G → SpV spPlayed [v, st [97, 98, 32, 97]] G (st (playedM one [97, 98, 32, 97])) := fun e => spv_played (hv1.mono e).odsT D1.ok D1.sg sl (Nat.le_trans (Nat.mul_le_mul_right _ p1) (by decide))
  refine q_when (b := false) (et_is (et_or (a := false) (b := false) (et_test (ev_op (ev_kw (zs := [st [97, 98, 32, 97], v]) (ea_cons (ev_is (ev_var rfl) vABA) (ea_cons (ev_var rfl) ea_nil)) (pl (Ex.refl _))) (ev_call (ea_cons (ev_var rfl) (ea_cons (ev_is (ev_var rfl) vABA) ea_nil)) (pl (Ex.refl _))) rv_neS1)) fun _ =>
    et_test (ev_op (ev_kw (zs := [u, v]) (ea_cons (ev_var rfl) (ea_cons (ev_var rfl) ea_nil)) (spv_Unlike hv1.odsL hu1 (two_of D1 D2) f1)) (ev_call (ea_cons (ev_var rfl) (ea_cons (ev_var rfl) ea_nil)) (spv_Unlike hv1.odsL hu1 (two_of D1 D2) f1)) rv_neR)) rfl) (fun h => nomatch h) fun _ H2 e2 => ?_
  have hv2 := (hv1.mono e2).odsL
  have hu2 := hu1.mono e2
  refine q_when (b := false) (et_is (et_or (a := false) (b := false) (et_test (ev_op (ev_kw (zs := [u, v]) (ea_cons (ev_var rfl) (ea_cons (ev_var rfl) ea_nil)) (spv_Alike hv2 hu2 (two_of D1 D2) f1)) (ev_call (ea_cons (ev_var rfl) (ea_cons (ev_var rfl) ea_nil)) (spv_Alike hv2 hu2 (two_of D1 D2) f1)) rv_neB1)) fun _ =>
    et_test (ev_op (ev_kw (zs := [u, v]) (ea_cons (ev_var rfl) (ea_cons (ev_var rfl) ea_nil)) (spv_Commute hv2 hu2 (two_of D12 D21) f2)) (ev_call (ea_cons (ev_var rfl) (ea_cons (ev_var rfl) ea_nil)) (spv_Commute hv2 hu2 (two_of D12 D21) f2)) rv_neB1)) rfl) (fun h => nomatch h) fun _ H3 e3 => ?_
  have hv3 := hv2.mono e3
  have hu3 := hu2.mono e3
  refine q_when (b := false) (et_is (et_or (a := false) (b := false) (et_test (ev_op (ev_kw (zs := [u, v]) (ea_cons (ev_var rfl) (ea_cons (ev_var rfl) ea_nil)) (spv_Undoes hv3 hu3 (two_of D12 DR.nil) f3)) (ev_call (ea_cons (ev_var rfl) (ea_cons (ev_var rfl) ea_nil)) (spv_Undoes hv3 hu3 (two_of D12 DR.nil) f3)) rv_neB1)) fun _ =>
    et_test (ev_op (ev_kw (zs := [v]) (ea_cons (ev_var rfl) ea_nil) (spv_Idle hv3 (two_of D1 DR.nil) f4)) (ev_call (ea_cons (ev_var rfl) ea_nil) (spv_Idle hv3 (two_of D1 DR.nil) f4)) rv_neB1)) rfl) (fun h => nomatch h) fun _ H4 e4 => ?_
  have hv4 := hv3.mono e4
  have hu4 := hu3.mono e4
  have e14 := ((e1.trans e2).trans e3).trans e4
  have hT4 := tabs_ex e14 hT
  have O := one_of D1 (by decide) sw (by decide) (by decide)
  have xw : ∀ {G : Hp}, EvX T (tVar 3) [some v, some u, some (.str "ab a"), some (.str "ba")] G (st [98, 97]) := by rw [vBA]; exact ex_var rfl
  have x1 := ex_op (T := T) (σ := [some v, some u, some (.str "ab a"), some (.str "ba")]) (H := H4) (ex_srcK (xw) (ex_var (i := 0) rfl) hv4 O g1) (ex_src (E := E0) (ex_var (i := 0) rfl) xw hv4 O g1) (fun G => rv_neR)
  refine q_whenTX (T := T) (H := H4) (etx_or (etx_of fun G e => et_test (ev_op (ev_kw (zs := [u]) (ea_cons (ev_var rfl) ea_nil) (spv_Settled (hu4.n e) (two_of D22 D2) f5)) (ev_call (ea_cons (ev_var rfl) ea_nil) (spv_Settled (hu4.n e) (two_of D22 D2) f5)) rv_neB1)) (etx_test x1)) hT4 fun H5 e5 t5 => ?_
  have x2 := ex_op (T := T) (σ := [some v, some u, some (.str "ab a"), some (.str "ba")]) (H := H5) (ex_showK (xw) (ex_var (i := 0) rfl) (hv4.n e5) O (by decide) (by decide) g2) (ex_show (E := E0) (ex_var (i := 0) rfl) xw (hv4.n e5) O (by decide) (by decide) g2) (fun G => rv_eqR)
  exact s_retX (T := T) (H := H5) x2 t5 fun H6 e6 t6 => q H6 (((Ex.n e14).trans e5).trans e6) t6
end
end Ev
set_option Elab.async false
set_option linter.all false
set_option maxRecDepth 100000
set_option maxHeartbeats 1000000
namespace Ev
open PySem PySem.Spec PyProof.Rows L2 Evl StX LamX NdefX
/-- a list of orders that stays when the list at D changes -/
def OdsD (D : Addr) (H : Hp) (v : V) (os : List Od) : Prop := ∃ a vs, v = .ref a ∧ a ≠ D ∧ H a = some (.lst vs) ∧ Paired (fun v o => (OdV H v o ∧ TokV H v o) ∧ ∀ b l, v = .ref b → Rd H b (.tup [.str "letters", .ref l]) → l ≠ D) vs os
section
variable {D p : Addr} {H0 H H' : Hp} {v : V} {os : List Od} {u : HO}
theorem OdsN.toD (h : OdsN H0 H v os) (hD : H0 D ≠ none) : OdsD D H v os := by
  obtain ⟨a, vs, h1, h2, h3, h4⟩ := h
  exact ⟨a, vs, h1, fun z => hD (z ▸ h2), h3, L2.Paired.mapP h4 fun x y z => ⟨z.1, fun b l e g q => hD (q ▸ z.2 b l e g)⟩⟩
theorem OdsD.mv (hp : PumpOk p H) (m : Mv p H H') (h : OdsD D H v os) : OdsD D H' v os := by
  obtain ⟨a, vs, h1, h2, h3, h4⟩ := h
  refine ⟨a, vs, h1, h2, at_mv hp m (refs_ne h4 fun _ _ z => z.1.1.ref) h3, L2.Paired.mapP h4 fun x y z => ⟨⟨z.1.1.mv hp m, z.1.2.mv hp m⟩, fun b l e g => ?_⟩⟩
  obtain ⟨b', xs, e', hb, _⟩ := z.1.1.head
  rw [e] at e'
  cases e'
  have := rd_one (rd_mv hp m (fun _ z => nomatch z) hb) g
  subst this
  exact z.2 b l e hb
theorem OdsD.upd {us : List V} (hD : H D = some (.lst us)) (h : OdsD D H v os) : OdsD D (L2.upd H D u) v os := by
  obtain ⟨a, vs, h1, h2, h3, h4⟩ := h
  have hDt : ∀ xs, ¬ Rd H D (.tup xs) := fun xs z => by rcases z with z | ⟨_, z⟩ <;> rw [hD] at z <;> cases z
  refine ⟨a, vs, h1, h2, by rw [upd_ne h2]; exact h3, L2.Paired.mapP h4 fun x y z => ⟨⟨z.1.1.upd hDt z.2, z.1.2.upd hDt⟩, fun b l e g => ?_⟩⟩
  obtain ⟨b', xs, e', hb, _⟩ := z.1.1.head
  rw [e] at e'
  cases e'
  have hne : b ≠ D := fun q => hDt _ (q ▸ hb)
  refine z.2 b l e ?_
  unfold Rd at g ⊢
  rw [upd_ne hne] at g
  exact g
theorem OdsD.odsK (h : OdsD D H v os) : OdsK H v os := let ⟨a, vs, h1, _, h3, h4⟩ := h; ⟨a, vs, h1, h3, L2.Paired.mapP h4 fun _ _ z => z.1⟩
end
theorem ex_andV {T : List NTab} {σ : L2.St} {H : Hp} {ta tb : TE} {b : Bool} (h1 : EvX T ta σ H (.bl true)) (h2 : EvX T tb σ H (.bl b)) : EvX T (tAndV ta tb) σ H (.bl b) := fun H1 e t Q q => h1 H1 e t _ fun H2 e2 t2 => ⟨true, rfl, by
  show (if true = true then _ else _ : Prop)
  rw [if_pos rfl]
  exact h2 H2 (e.trans e2) t2 Q fun H3 e3 t3 => q H3 (e2.trans e3) t3⟩
theorem ex_of {T : List NTab} {σ : L2.St} {H : Hp} {te : TE} {v : V} (h : ∀ H1, ExtN H H1 → Ev te σ H1 v) : EvX T te σ H v := fun H1 e t Q q => h H1 e H1 (Ex.refl H1) Q fun H2 e2 => q H2 (Ex.n e2) (tabs_ex e2 t)
theorem orders_run {σ : L2.St} {H : Hp} {ta tb tc td : TE} {Q : VK} {E : XK} {p : Addr} {l : Tx} {dr : Nat} (ha : Ev ta σ H (.ref p)) (hb : Ev tb σ H (st l)) (hc : Ev tc σ H (.int 1)) (hd : Ev td σ H (.int (dr : Int))) (hl : l ≠ []) (hz : l.length ≤ 1000) (hs : AllSg l) (hdr : dr ≤ 1) (hp : PumpOk p H)
    (q : ∀ (v : V) (os : List Od) H4 H', Ex H H4 → OdsN H4 H' v os → DR l 1 (if dr = 0 then 3 else 28) os → Mv p H4 H' → PumpOk p H' → Q v H') : tCall spOrdersL [] E (tCons ta (tCons tb (tCons tc (tCons td tNil)))) σ H Q :=
  ha H (Ex.refl H) _ fun H1 e1 => hb H1 e1 _ fun H2 e2 => hc H2 (e1.trans e2) _ fun H3 e3 => hd H3 ((e1.trans e2).trans e3) _ fun H4 e4 => ⟨p, l, dr, rfl, hl, hz, hs, hdr, hp.ex (((e1.trans e2).trans e3).trans e4), fun v os H' h1 h2 h3 h4 => q v os H4 H' (((e1.trans e2).trans e3).trans e4) h1 h2 h3 h4⟩
section
variable {P : Program} {w : World} {K : PySem.W.Frag} {mg : Str → Option Value} {base : Heap}
/-! ### law -/
theorem sc_law : FnScope ["_law_script", "_law_pump_here", "_law_letters_here", "_law_one_it", "_law_other_it", "_law_third", "_law_same_here", "_law_left", "_law_right_here", "_law_k"] ["_law_script"] (defScope (top 55)) := ⟨rfl, rfl, rfl, by decide +kernel, rfl, by decide +kernel, by decide +kernel⟩
def spLawL (K : PySem.W.Frag) (T : List NTab) : Sp := fun vs H Q _ => ∃ (a : Addr) (ns : List Int), vs = [.ref a] ∧ SqL K H a (ns.map V.int) ∧ ns.length ≤ 63 ∧ TabsN T H ∧ ∀ H', Q (.bl true) H'
def bkO : List Od := [.back [97]]
theorem bk_dr : DR [97] 1 1 bkO := ⟨fun o ho => by
  rw [List.mem_singleton.mp ho]; show (1 : Nat) ≤ 3; decide, fun c hc => by
  have : c ∈ [97] := hc
  rw [List.mem_singleton.mp this]; decide, Nat.le_refl _, by decide, fun c hc => hc⟩
theorem vABC : (V.str "abc") = st ABC := congrArg V.str (by decide +kernel)
theorem vSB : (V.str " b") = st [32, 98] := congrArg V.str (by decide +kernel)
def Ls3 : List V := [.str "ab", .str "a", .str " b"]
theorem ls3 {k : Nat} (h : k < 3) : ∃ L : Tx, Ls3[k]? = some (st L) ∧ L ≠ [] ∧ L.length ≤ 2 ∧ AllSg L := by
  match k, h with
  | 0, _ => exact ⟨[97, 98], by rw [← vAB]; rfl, by simp, by simp, by unfold AllSg; decide⟩
  | 1, _ => exact ⟨[97], by rw [← vA]; rfl, by simp, by simp, by unfold AllSg; decide⟩
  | 2, _ => exact ⟨[32, 98], by rw [← vSB]; rfl, by simp, by simp, by unfold AllSg; decide⟩
theorem ok_law {T : List NTab} (F : At K mg 55 "law") (G : Gb mg) (DPu : Df P w K mg base 1 "_law_pump" ["_law_script", "_law_at"] (spPump K)) (DC : Df P w K mg base 1 "_law_cup" ["_law_pump_here", "_law_many"] spCup)
    (DWo : Df P w K mg base 2 "_law_word" ["_law_pump_here", "_law_letters_here", "_law_least", "_law_most"] spWordL) (DO : Df P w K mg base 5 "_law_orders" ["_law_pump_here", "_law_letters_here", "_law_most", "_law_drops"] spOrdersL)
    (DSa : Df P w K mg base 2 "_law_same" ["_law_pump_here", "_law_orders_it", "_law_word_it"] spSame) (DA : Df P w K mg base 8 "alike_lines" ["one", "other"] spAlike) (DR' : Df P w K mg base 9 "_law_right" ["_law_one_it", "_law_other_it", "_law_third"] spRight)
    (DX' : Df P w K mg base 8 "_law_exchanged" ["_law_pump_here", "_law_one_it", "_law_other_it", "_law_word_it"] (spExch T)) (DKn : Df P w K mg base 2 "_law_known" ["_law_pump_here", "_law_word_it", "_law_other_it"] spKnown)
    (DNm : Df P w K mg base 9 "_law_named" ["_law_one_it", "_law_other_it"] (spNamed T)) (DHr : Df P w K mg base 9 "_law_handed_right" [] (spHRight T)) : Df P w K mg base 10 "law" ["_law_script"] (spLawL K T) := by
  refine Df.made (N := ["_law_script", "_law_pump_here", "_law_letters_here", "_law_one_it", "_law_other_it", "_law_third", "_law_same_here", "_law_left", "_law_right_here", "_law_k"]) F sc_law (fun _ _ _ _ _ _ us hl => match us, hl with | [_], _ => rfl) (fun vs H Q E h => ?_) (fun f cdv A outer s H vs Q E hr h => ?_)
  · obtain ⟨a, ns, rfl, _⟩ := h; rfl
  refine ⟨_, pss_cons (ps_set (i := 1) sc_law.nd rfl (.inr rfl) (pe_df DPu hr (by decide) (by rfl) (pa_cons (pv 0) (pa_cons pe_int pa_nil))))
    (pss_cons (ps_set (i := 2) sc_law.nd rfl (.inr rfl) (pe_ix ix_list (pe_lst (pa_cons pe_str (pa_cons pe_str (pa_cons pe_str pa_nil)))) (pe_df DC hr (by decide) (by rfl) (pa_cons (pv 1) (pa_cons pe_int pa_nil))) (fun _ _ => rfl)))
    (pss_cons (ps_asg (g := gLst K 3 (gCons (gName 3) (gCons (gName 4) (gCons (gName 5) gNil)))) (pe_lc (own := [("_law_k", 9)]) (g := gName 9) (tt := tYes) (te := tCall spOrdersL [] E0 (tCons (tVar 1) (tCons (tVar 2) (tCons (tC (.int 1)) (tCons (tCB (fun xs H Q => (∃ i, xs = [V.int i] ∧ Q (.int i) H) ∨ ∃ k, xs = [V.bl k] ∧ Q (.int (if k then 1 else 0)) H) (tCons (tOp rEq (tVar 9) (tC (.int 0))) tNil)) tNil))))) rfl sc_law.nd (pi_range1 (by rfl) G.rng (pa_cons pe_int pa_nil))
          (blkOk_by (own := [("_law_k", 9)]) (N := ["_law_script", "_law_pump_here", "_law_letters_here", "_law_one_it", "_law_other_it", "_law_third", "_law_same_here", "_law_left", "_law_right_here", "_law_k"]) (sc := defScope (top 55)) (by decide +kernel))
          (fun _ _ _ _ _ => pg_name (i := 9) sc_law.nd rfl (.inl rfl)) (fun _ _ _ _ _ => pts_nil) (fun _ _ _ _ _ => pe_df DO hr (by decide) (by rfl) (pa_cons (pv 1) (pa_cons (pv 2) (pa_cons pe_int (pa_cons (pe_callTy call_int1 (by rfl) G.int bi_int (pa_cons (pe_cmpR op_eq (pv 9) pe_int (nomark _)) pa_nil)) pa_nil))))))
        (pg_lst rfl (pgs_cons (pg_name (i := 3) sc_law.nd rfl (.inl rfl)) (pgs_cons (pg_name (i := 4) sc_law.nd rfl (.inl rfl)) (pgs_cons (pg_name (i := 5) sc_law.nd rfl (.inl rfl)) pgs_nil)))))
    (pss_cons (ps_set (i := 6) sc_law.nd rfl (.inl rfl) (pe_df DSa hr (by decide) (by rfl) (pa_cons (pv 1) (pa_cons (pv 3) (pa_cons (pe_df DWo hr (by decide) (by rfl) (pa_cons (pv 1) (pa_cons (pv 2) (pa_cons pe_int (pa_cons pe_int pa_nil))))) pa_nil)))))
    (pss_cons (ps_if (PW.pt (pw_or (pt_not (pt_val (pe_df DA hr (by decide) (by rfl) (pa_cons (pv 3) (pa_cons (pv 6) pa_nil))))) (pw_or1 (pt_cmpR op_ne (pe_df DA hr (by decide) (by rfl) (pa_cons (pv 6) (pa_cons (pv 4) pa_nil))) (pe_df DA hr (by decide) (by rfl) (pa_cons (pv 3) (pa_cons (pv 4) pa_nil))) (nomark _))))) (pss_one (ps_ret pe_bl)) pss_nil)
    (pss_cons (ps_if (PW.pt (pw_or (pt_not (pt_val (pe_df DR' hr (by decide) (by rfl) (pa_cons (pv 3) (pa_cons (pv 4) (pa_cons (pv 5) pa_nil)))))) (pw_or1 (pt_not (pt_val (pe_df DR' hr (by decide) (by rfl) (pa_cons (pv 3) (pa_cons (pv 6) (pa_cons (pv 5) pa_nil))))))))) (pss_one (ps_ret pe_bl)) pss_nil)
    (pss_cons (ps_if (pt_not (pt_val (pe_df DX' hr (by decide) (by rfl) (pa_cons (pv 1) (pa_cons (pv 3) (pa_cons (pv 4) (pa_cons (pe_df DWo hr (by decide) (by rfl) (pa_cons (pv 1) (pa_cons (pv 2) (pa_cons pe_int (pa_cons pe_int pa_nil))))) pa_nil))))))) (pss_one (ps_ret pe_bl)) pss_nil)
    (pss_cons (ps_for (g := g2 K 7 8) PassesOwn.never rfl (pi_list (pe_df DKn hr (by decide) (by rfl) (pa_cons (pv 1) (pa_cons (pe_df DWo hr (by decide) (by rfl) (pa_cons (pv 1) (pa_cons pe_str (pa_cons pe_int (pa_cons pe_int pa_nil))))) (pa_cons (pe_df DWo hr (by decide) (by rfl) (pa_cons (pv 1) (pa_cons pe_str (pa_cons pe_int (pa_cons pe_int pa_nil))))) pa_nil)))))
        (pg_tup rfl (pgs_cons (pg_name (i := 7) sc_law.nd rfl (.inl rfl)) (pgs_cons (pg_name (i := 8) sc_law.nd rfl (.inl rfl)) pgs_nil)))
        (pss_one (ps_if (pt_not (pt_val (pe_df DA hr (by decide) (by rfl) (pa_cons (pv 7) (pa_cons (pv 8) pa_nil))))) (pss_one (ps_ret pe_bl)) pss_nil)))
    (pss_one (ps_ret (pe_and (pe_not (pe_df DA hr (by decide) (by rfl) (pa_cons (pe_lst (pa_cons (pe_tup (pa_cons pe_str (pa_cons pe_str pa_nil))) pa_nil)) (pa_cons (pe_lst (pa_cons (pe_tup (pa_cons pe_str (pa_cons pe_str pa_nil))) pa_nil)) pa_nil)))) (pe_and (pe_df DNm hr (by decide) (by rfl) (pa_cons (pv 3) (pa_cons (pv 4) pa_nil))) (pe_one (pe_df0 DHr hr (by decide) (by rfl)))))))))))))), ?_⟩
  obtain ⟨a, ns, rfl, hS, hl, hT, q⟩ := h
  refine ⟨.ref a, rfl, a, ns, rfl, hS, hl, fun p n H1 hp0 e1 hn hp => ?_⟩
  have hP : PumpOk p H1 := ⟨n, hn, hp⟩
  have hT1 := tabs_ex e1 hT
  refine ⟨sz_of (n := 3) (Nat.le_of_ble_eq_true rfl), fun l nl => ?_⟩
  refine cup_run (p := p) (m := 3) (ev_var rfl) ev_c (by decide) (by decide) (hP.ex (Ex.new nl)) fun d H2 d0 d1 mv2 hp2 => ?_
  obtain ⟨k, rfl⟩ := Int.eq_ofNat_of_zero_le d0
  have hl2 : H2 l = some (.lst Ls3) := mv2 _ _ upd_same (pump_ne hP nl)
  obtain ⟨L, hLk, hL0, hL2, hLs⟩ := ls3 (k := k) (by omega)
  refine ⟨l, Ls3, k, st L, rfl, rfl, sq_of hl2, atI_nat hLk, ?_⟩
  have hT2 := TabsN.mv (hP.ex (Ex.new nl)) mv2 (tabs_ex (Ex.new nl) hT1)
  refine ⟨3, rfl, by decide, by decide, fun D nD => ?_⟩
  have hDp := pump_ne hp2 nD
  have hL25 : L.length ≤ 25 := Nat.le_trans hL2 (by decide)
  refine lc_it (walk_range (lo := 0) (n := 3)) (fun i H' => Mv p H2 H' ∧ PumpOk p H' ∧ ∃ us, H' D = some (.lst us) ∧ us.length = i ∧ ∀ j, j < i → ∃ v os, us[j]? = some v ∧ OdsD D H' v os ∧ DR L 1 (if j = 0 then 28 else 3) os)
    ⟨(Mv.refl).mut nD, hp2.upd hDp, [], upd_same, rfl, fun j hj => absurd hj (Nat.not_lt_zero _)⟩ (fun _ _ _ _ => trivial) (fun i x H3 H' hi pv hy => ?_) (fun H3 pv => ?_)
  · obtain ⟨rfl, hx⟩ := hy
    subst hx
    obtain ⟨m1, hp3, us, hD, hus, hel⟩ := pv
    refine ⟨rfl, ?_⟩
    unfold tYes
    dsimp only
    rw [if_pos (rfl : true = true)]
    have hint : Ev (tCB (fun xs H Q => (∃ i, xs = [V.int i] ∧ Q (.int i) H) ∨ ∃ k, xs = [V.bl k] ∧ Q (.int (if k then 1 else 0)) H) (tCons (tOp rEq (tVar 9) (tC (.int 0))) tNil)) [some (.ref a), some (.ref p), some (st L), none, none, none, none, none, none, some (.int (0 + (i : Int)))] H' (.int (if decide (V.int (0 + (i : Int)) = V.int 0) then 1 else 0)) :=
      ev_cb (ea_cons (ev_op (ev_var rfl) ev_c (rv_eq rfl)) ea_nil) fun H1 e Q q => .inr ⟨_, rfl, q H1 (Ex.refl H1)⟩
    have hdr : (V.int (if decide (V.int (0 + (i : Int)) = V.int 0) then 1 else 0)) = V.int ((if i = 0 then 1 else 0 : Nat) : Int) := by
      by_cases h0 : i = 0
      · subst h0; rfl
      · have : ¬ (V.int (0 + (i : Int)) = V.int 0) := fun z => h0 (by have := V.int.inj z; omega)
        rw [decide_eq_false this, if_neg h0]; rfl
    rw [hdr] at hint
    refine orders_run (p := p) (l := L) (dr := if i = 0 then 1 else 0) (ev_var rfl) (ev_var rfl) ev_c hint hL0 (by omega) hLs (by split <;> decide) hp3 fun v os H4 H5 e4 hv hdr mv5 hp5 => ?_
    have hD4 := e4 _ _ hD
    have hD5 := mv5 _ _ hD4 hDp
    have mv45 : Mv p H' H5 := (Mv.ex e4).trans mv5
    refine ⟨us, hD5, Nat.lt_of_lt_of_le (show us.length < 3 by omega) (by decide), ?_, hp5.upd hDp, us ++ [v], upd_same, by rw [List.length_append, hus]; rfl, fun j hj => ?_⟩
    · exact (m1.trans mv45).mut nD
    · by_cases hji : j < i
      · obtain ⟨v', os', g1, g2, g3⟩ := hel j hji
        exact ⟨v', os', by rw [List.getElem?_append_left (by omega)]; exact g1, (g2.mv hp3 mv45).upd hD5, g3⟩
      · have hji' : j = i := by omega
        subst hji'
        refine ⟨v, os, by rw [List.getElem?_append_right (by omega), hus]; simp, (OdsN.toD hv (by rw [hD4]; simp)).upd hD5, ?_⟩
        by_cases h0 : j = 0
        · rw [if_pos h0]
          rw [if_pos h0] at hdr
          exact hdr
        · rw [if_neg h0]
          rw [if_neg h0] at hdr
          exact hdr
  · obtain ⟨m3, hp3, us, hD, hus, hel⟩ := pv
    have hus : us.length = 3 := hus
    obtain ⟨v1, one, g1, o1, D1⟩ := hel 0 (by decide)
    obtain ⟨v2, other, g2, o2, D2⟩ := hel 1 (by decide)
    obtain ⟨v3, third, g3, o3, D3⟩ := hel 2 (by decide)
    rw [if_pos rfl] at D1
    rw [if_neg (by decide)] at D2 D3
    have hust : us = [v1, v2, v3] := by
      match us, hus with
      | [x, y, z], _ => simp at g1 g2 g3; rw [g1, g2, g3]
    subst hust
    have k1 := o1.odsK
    have k2 := o2.odsK
    have k3 := o3.odsK
    have hT3 := TabsN.mv hp2 m3 hT2
    refine ⟨D, _, rfl, sq_of hD, rfl, _, _, rfl, _, _, rfl, _, _, rfl, rfl, ?_⟩
    -- the alike list
    refine ⟨.ref p, rfl, v1, rfl, word_run (p := p) (l := L) (a := 1) (b := 1) (ev_var rfl) (ev_var rfl) ev_c ev_c hL0 (by omega) (by decide) (by decide) hp3 fun x H4 hx x1 x1' mv4 hp4 => ?_⟩
    obtain ⟨c, rfl⟩ : ∃ c, x = [c] := by
      match x, Nat.le_antisymm x1' x1 with
      | [c], _ => exact ⟨c, rfl⟩
    refine ⟨p, v1, one, L, c, rfl, k1.mv hp3 mv4, D1, hLs, hx c List.mem_cons_self, hp4, fun u same H5 hu D5 al mv5 hp5 => ?_⟩
    have mv35 := mv4.trans mv5
    have k15 := k1.mv hp3 mv35
    have k25 := k2.mv hp3 mv35
    have k35 := k3.mv hp3 mv35
    have hT5 := TabsN.mv hp3 mv35 hT3
    obtain ⟨r1, f1, F1⟩ := fu_of hL25 D1 D5
    obtain ⟨r2, f2, F2⟩ := fu_of hL25 D5 D2
    obtain ⟨r3, f3, F3⟩ := fu_of hL25 D1 D2
    have n1 : r1 = none := F1.iff.mpr al
    have n23 : decide (r2 = none) = decide (r3 = none) := by
      have : (r2 = none) ↔ (r3 = none) := by
        rw [F2.iff, F3.iff]
        exact ⟨fun h w hw => (al w hw).trans (h w hw), fun h w hw => (al w hw).symm.trans (h w hw)⟩
      exact decide_eq_decide.mpr this
    refine q_when (b := false) (et_is (et_or (a := !decide (r1 = none)) (b := !decide (decide (r2 = none) = decide (r3 = none))) (et_not (et_B (ev_alike2 (er_var rfl k15.odsL) (er_var rfl hu) (two_of D1 D5) f1))) fun _ => et_test (ev_op (ev_alike2 (er_var rfl hu) (er_var rfl k25.odsL) (two_of D5 D2) f2) (ev_alike2 (er_var rfl k15.odsL) (er_var rfl k25.odsL) (two_of D1 D2) f3) rv_neB)) (by rw [n1, n23]; simp)) (fun h => nomatch h) fun _ H6 e6 => ?_
    have k16 := k15.mono e6
    have k26 := k25.mono e6
    have k36 := k35.mono e6
    refine q_when (b := false) (et_is (et_or (a := !true) (b := !true) (et_not (et_B (ev_call (ea_cons (ev_var rfl) (ea_cons (ev_var rfl) (ea_cons (ev_var rfl) ea_nil))) (spv_right k16 k36 hL25 D1 D3 (.inl ⟨k26, D2⟩))))) fun _ => et_not (et_B (ev_call (ea_cons (ev_var rfl) (ea_cons (ev_var rfl) (ea_cons (ev_var rfl) ea_nil))) (spv_right k16 k36 hL25 D1 D3 (.inr ⟨hu.mono e6, D5, al⟩))))) rfl) (fun h => nomatch h) fun _ H7 e7 => ?_
    have e57 := e6.trans e7
    have hp7 := hp5.ex e57
    have k17 := k15.mono e57
    have k27 := k25.mono e57
    have hT7 := tabs_ex e57 hT5
    -- the signs exchanged
    refine ⟨.ref p, rfl, v1, rfl, v2, rfl, word_run (p := p) (l := L) (a := 1) (b := 2) (ev_var rfl) (ev_var rfl) ev_c ev_c hL0 (by omega) (by decide) (by decide) hp7 fun x H8 hx x1 x2 mv8 hp8 => ?_⟩
    have k18 := k17.mv hp7 mv8
    have k28 := k27.mv hp7 mv8
    refine ⟨p, v1, v2, one, other, L, x, rfl, k18, k28, D1, D2, hL25, hLs, hx, x1, x2, TabsN.mv hp7 mv8 hT7, hp8, fun H9 mv9 hT9 hp9 => ⟨true, rfl, ?_⟩⟩
    show (if (!true) = true then _ else _ : Prop)
    rw [if_neg (by decide)]
    have keep : ∀ {v : V} {os : List Od}, OdsK H8 v os → OdsK H9 v os := fun {v os} h => by
      have hne : ∀ {b : Addr} {o : HO}, H8 b = some o → (∀ n, o ≠ .lst [.int n]) → (∀ ps, o ≠ .tbl ps) → H9 b = some o := fun {b o} hb h1 h2 => mv9 b o hb (fun z => by
        obtain ⟨m, _, hm⟩ := hp8
        rw [z, hm] at hb
        exact h1 m (Option.some.inj hb).symm) h2
      have hrd : ∀ {b : Addr} {o : HO}, Rd H8 b o → (∀ n, o ≠ .lst [.int n]) → (∀ ps, o ≠ .tbl ps) → Rd H9 b o := fun hb h1 h2 => hb.elim (fun hb => .inl (hne hb h1 h2)) fun ⟨o', hb⟩ => .inr ⟨o', hne hb (fun _ z => nomatch z) (fun _ z => nomatch z)⟩
      obtain ⟨b, vs, h1, h2, h3⟩ := h
      refine ⟨b, vs, h1, hne h2 (refs_ne h3 fun _ _ z => z.1.ref) (fun _ z => nomatch z), L2.Paired.mapP h3 fun y o z => ⟨?_, ?_⟩⟩
      · have hod := z.1
        cases o with
        | letters ps =>
          obtain ⟨b2, l2, ws, i1, i2, i3, i4⟩ := hod
          exact ⟨b2, l2, ws, i1, hrd i2 (fun _ z => nomatch z) (fun _ z => nomatch z), hrd i3 (refs_ne i4 fun _ _ => PairV.ref) (fun _ z => nomatch z), L2.Paired.mapP i4 fun _ _ z => let ⟨b3, j1, j2⟩ := z; ⟨b3, j1, hrd j2 (fun _ z => nomatch z) (fun _ z => nomatch z)⟩⟩
        | _ => exact let ⟨b2, i1, i2⟩ := hod; ⟨b2, i1, hrd i2 (fun _ z => nomatch z) (fun _ z => nomatch z)⟩
      · have htk := z.2
        cases o with
        | rep x y => exact let ⟨b2, ob, kk, t0, t1, t2, i1, i2, i3⟩ := htk; ⟨b2, ob, kk, t0, t1, t2, i1, hne i2 (fun _ z => nomatch z) (fun _ z => nomatch z), i3⟩
        | _ => trivial
    have k19 := keep k18
    have k29 := keep k28
    -- the known pairs
    have one1 : ∀ {x : Tx}, 1 ≤ x.length → x.length ≤ 1 → ∃ c, x = [c] := fun {x} h1 h2 => match x, Nat.le_antisymm h2 h1 with | [c], _ => ⟨c, rfl⟩
    refine ⟨.ref p, rfl, word_run (p := p) (l := ABC) (a := 1) (b := 1) (ev_var rfl) (ev_is ev_c vABC) ev_c ev_c (by simp) (by decide) (by decide) (by decide) hp9 fun y H10 hy y1 y2 mv10 hp10 => word_run (p := p) (l := ABC) (a := 1) (b := 1) (ev_var rfl) (ev_is ev_c vABC) ev_c ev_c (by simp) (by decide) (by decide) (by decide) hp10 fun z H11 hz z1 z2 mv11 hp11 => ?_⟩
    obtain ⟨ca, rfl⟩ := one1 y1 y2
    obtain ⟨cb, rfl⟩ := one1 z1 z2
    refine ⟨p, ca, cb, rfl, hy ca List.mem_cons_self, hz cb List.mem_cons_self, hp11, fun v rr1 rr2 H12 hls g1 g2 mv12 hp12 => ?_⟩
    have mv912 := (mv10.trans mv11).trans mv12
    have k112 := k19.mv hp9 mv912
    have k212 := k29.mv hp9 mv912
    have hT12 := TabsN.mv hp9 mv912 hT9
    obtain ⟨b, ws, rfl, hb, hws⟩ := hls
    have hlen := paired_len hws
    have hABC : ABC.length ≤ 25 := by decide
    refine ⟨b, rfl, ⟨ws, sq_of hb⟩, ?_⟩
    refine for_list (xs := ws) (fun i σ' H' => Ex H12 H' ∧ ∃ y7 y8, σ' = [some (.ref a), some (.ref p), some (st L), some v1, some v2, some v3, some u, y7, y8, none]) ⟨Ex.refl _, none, none, rfl⟩ (fun i σ' H' _ z => sq_of (z.1 _ _ hb)) (fun i x σ' H' hx ⟨e', y7, y8, hσ⟩ => ?_) (fun σ' H' ⟨e', y7, y8, hσ⟩ => ?_)
    · subst hσ
      obtain ⟨rr, hrr, T', x1', x2', rfl, hT', ox1, ox2⟩ := paired_get hws hx
      have hgood : Good rr := by
        match i, hrr with
        | 0, hrr => cases hrr; exact g1
        | 1, hrr => cases hrr; exact g2
        | _ + 2, hrr => simp at hrr
      refine ⟨T', _, rfl, rd_t (.inl (e' _ _ hT')), rfl, _, _, rfl, _, _, rfl, rfl, ?_⟩
      obtain ⟨r5, f5, F5⟩ := fu_of hABC hgood.d1 hgood.d2
      have n5 : r5 = none := F5.iff.mpr hgood.al
      refine s_when (b := false) (et_is (et_not (et_B (ev_alike2 (er_var rfl (ox1.mono e')) (er_var rfl (ox2.mono e')) (two_of hgood.d1 hgood.d2) f5))) (by rw [n5]; rfl)) (fun h => nomatch h) fun _ H13 e13 => ⟨e'.trans e13, _, _, rfl⟩
    · subst hσ
      have hT13 := tabs_ex e' hT12
      have k113 := k112.mono e'
      have k213 := k212.mono e'
      have h7 : fuM ffO bkO = some (some [32]) := by decide +kernel
      have hff : ∀ {σ : L2.St} {G : Hp}, EvR (tLst (tCons (tTup (tCons (tC (.str "front")) (tCons (tC (.str "a")) tNil))) tNil)) σ G ffO := ep_ods (epl_cons mo_od (ep_front ev_c (ev_is ev_c vA)) epl_nil) (Nat.le_of_ble_eq_true rfl)
      have hbk : ∀ {σ : L2.St} {G : Hp}, EvR (tLst (tCons (tTup (tCons (tC (.str "back")) (tCons (tC (.str "a")) tNil))) tNil)) σ G bkO := ep_ods (epl_cons mo_od (ep_back ev_c (ev_is ev_c vA)) epl_nil) (Nat.le_of_ble_eq_true rfl)
      refine s_retX (T := T) (H := H') (v := .bl true) (ex_andV (ex_of fun G _ => ev_is (ev_notV (ev_alike2 hff hbk (two_of ff_dr bk_dr) h7)) (by rfl)) (ex_andV (fun G e t Q qq => ?_) fun G e t Q qq => ?_)) hT13 fun H14 _ _ => q H14
      · exact ⟨v1, rfl, v2, rfl, v1, v2, one, other, L, rfl, k113.n e, k213.n e, D1, D2, Nat.le_trans hL2 (by decide), t, qq⟩
      · exact ⟨rfl, t, qq⟩
end
end Ev
set_option Elab.async false
set_option linter.all false
set_option maxRecDepth 100000
set_option maxHeartbeats 1000000
namespace Ev
open PySem PySem.Spec PyProof.Rows L2 Evl StX LamX NdefX
/-! ### nothing is booked: told by the fragment -/
def keyStr (e : DictEntry) : Bool := match e.key with
  | .str _ _ => true
  | _ => false
def ncB (K : PySem.W.Frag) : Bool := match K.lookup cStatics with
  | some ⟨_, _, .dict es _, _⟩ => es.toList.all keyStr && (es.toList.find? (·.key.isStr sharingNotToldKey)).isNone
  | _ => false
theorem ncB_ok {K : PySem.W.Frag} {h : Heap} (X : K.In h) (e : ncB K = true) : NoneBooked h := by
  unfold ncB at e
  cases q : K.lookup cStatics with
  | none => rw [q] at e; cases e
  | some o =>
    obtain ⟨oc, od, dt, sl⟩ := o
    rw [q] at e
    cases dt with
    | dict es n =>
      obtain ⟨h1, h2⟩ := Bool.and_eq_true_iff.mp (show (es.toList.all keyStr && (es.toList.find? (·.key.isStr sharingNotToldKey)).isNone) = true from e)
      refine ⟨nsFind es, ⟨_, es, n, X _ _ q, rfl, fun d hd => ?_, fun _ => rfl⟩, ?_⟩
      · have := List.all_eq_true.mp h1 d (Array.mem_toList_iff.mpr hd)
        unfold keyStr at this
        cases hk : d.key with
        | str x t => exact ⟨x, t, rfl⟩
        | _ => rw [hk] at this; cases this
      · unfold nsFind findBy
        rw [← Array.find?_toList, Option.isNone_iff_eq_none.mp h2]
        rfl
    | _ => cases e
/-! ### the head's facts -/
def dd (i : Nat) (x : Str) : He.DefD := ⟨(x, none), x, x, defArgs (top i), defBody (top i), defScope (top i), [], []⟩
def nq (i : Nat) (x : Str) : Nat × Str := (i, x)
def ns : List (Nat × Str) := [nq 6 "is_whole", nq 9 "is_line", nq 10 "is_word", nq 11 "are_letters", nq 12 "is_order", nq 13 "check_orders", nq 14 "check_line", nq 15 "done", nq 16 "played", nq 17 "fed", nq 18 "led", nq 19 "begun", nq 20 "pushed", nq 21 "ended", nq 22 "signs_in", nq 23 "signs_for", nq 24 "apart", nq 25 "parts_here", nq 26 "first_unlike",
  nq 27 "unlike_line", nq 28 "alike_lines", nq 29 "commute_lines", nq 30 "idle_lines", nq 31 "settled", nq 32 "undoes", nq 33 "least_line", nq 34 "source", nq 35 "shows",
  nq 37 "_law_pump", nq 38 "_law_cup", nq 39 "_law_one_of", nq 40 "_law_word", nq 41 "_law_letters", nq 42 "_law_order", nq 43 "_law_orders", nq 44 "_law_same", nq 45 "_law_known", nq 46 "_law_right", nq 47 "_law_names", nq 48 "_law_turned", nq 49 "_law_turned_order", nq 50 "_law_size", nq 51 "_law_exchanged", nq 52 "_law_handed", nq 53 "_law_handed_right", nq 54 "_law_named", nq 55 "law"]
def fnE : List He.DefD := ns.map fun q => dd q.1 q.2
def faE : List He.Fa := ns.map (fun q => .glo q.2) ++ [.free "len", .free "isinstance", .free "str", .free "tuple", .free "list", .free "int", .free "bool", .free "set", .free "zip", .free "range", .free "max", .free "min", .str "LINE_SIGNS" " abcdefghijklmnopqrstuvwxyz"]
def tfE : List He.Defn := [("source", none), ("shows", none)]
/-- what is looked at: what the module's names lead to, and the place of what is told apart from all -/
def asE (g : Addr → Option Obj) : List Addr := cStatics :: He.asD g 4
def obE (g : Addr → Option Obj) : He.AlX := (He.obsT faE fnE [] (He.frT g (asE g)), ncB (He.frT g (asE g)) && He.tabsB g tfE (He.frT g (asE g)))
theorem saysE {w : World} {h : Heap} (e : obE h.get? = He.valX fnE [] w) : He.SaysX faE fnE [] tfE ncB w h (He.frT h.get? (asE h.get?)) := by
  have e2 := congrArg Prod.snd e
  have e2 : (ncB (He.frT h.get? (asE h.get?)) && He.tabsB h.get? tfE (He.frT h.get? (asE h.get?))) = true := e2
  obtain ⟨h1, h2⟩ := Bool.and_eq_true_iff.mp e2
  have key : ∀ p ∈ tfE, PySem.W.codeHdIn (He.frT h.get? (asE h.get?)) (He.cT (He.frT h.get? (asE h.get?)) p).1 (He.cT (He.frT h.get? (asE h.get?)) p).2 = true ∧ ∃ o, h.get? (He.cT (He.frT h.get? (asE h.get?)) p).2 = some o ∧ He.emptyTab o = true := fun p hp => by
    obtain ⟨k1, k2⟩ := Bool.and_eq_true_iff.mp (List.all_eq_true.mp h2 p hp)
    refine ⟨k1, ?_⟩
    cases q : h.get? (He.cT (He.frT h.get? (asE h.get?)) p).2 with
    | none => rw [q] at k2; cases k2
    | some o => rw [q] at k2; exact ⟨o, rfl, k2⟩
  exact { t := congrArg Prod.fst e, more := h1, hd := fun p hp => (key p hp).1, out := fun p hp => (let ⟨_, _, q, z⟩ := key p hp; He.frT_none q z), empty := fun p hp => (by
    obtain ⟨_, o, q, z⟩ := key p hp
    rw [q, He.emptyTab_eq z]) }
def hkE : PySem.W.Hook where
  α := He.AlX
  obs := fun s => obE s.heap.get?
  val := fun w => He.valX fnE [] w
  says := fun w h => ∃ K : PySem.W.Frag, K.In h ∧ He.SaysX faE fnE [] tfE ncB w h K
  of := fun _ _ e => ⟨_, He.frT_in, saysE e⟩
  keeps := fun _ _ _ ⟨K, hK, c⟩ k => ⟨K, PySem.W.Frag.In.keeps hK k, { t := c.t, more := c.more, hd := c.hd, out := c.out, empty := fun p hp => k _ _ (c.empty p hp) }⟩
section
variable {P : Program} {w : World} {K : PySem.W.Frag} {mg : Str → Option Value} {base h : Heap}
theorem at_E (X : K.In base) (G : base.Ns mainGlobals mg) (c : He.SaysD faE fnE K) (j : Nat) {i : Nat} {x : Str} (h1 : fnE[j]? = some (dd i x) := by rfl) (h2 : faE[j]? = some (.glo x) := by rfl) : At K mg i x := by
  obtain ⟨fd, F⟩ := c.def_ j h1
  exact ⟨_, fd, F, He.glo_ok X G (c.fact j h2)⟩
theorem atC_E (X : K.In base) (G : base.Ns mainGlobals mg) (c : He.SaysD faE fnE K) (j : Nat) {i : Nat} {x : Str} (h1 : fnE[j]? = some (dd i x) := by rfl) (h2 : faE[j]? = some (.glo x) := by rfl) : AtC K mg i x (He.cT K (x, none)).1 := by
  obtain ⟨fd, F⟩ := c.def_ j h1
  have kp := F.kp
  obtain ⟨oc, od, dV, kV, doc, pm, an, cdv, ct, osl, rfl, lk, hcd, hD, hK⟩ := F.ex
  obtain ⟨cc, rfl⟩ := He.codeIn_ref hcd
  have e : (He.cT K (x, none)).1 = cc := He.codeOf_eq lk rfl
  rw [e]
  exact ⟨_, oc, od, dV, kV, doc, pm, an, ct, osl, He.glo_ok X G (c.fact j h2), lk, hcd, hD, hK, kp⟩
theorem gb_E (X : K.In base) (G : base.Ns mainGlobals mg) (c : He.SaysD faE fnE K) : Gb mg where
  len := He.free_ok X G (c.fact 47 rfl)
  isi := He.free_ok X G (c.fact 48 rfl)
  str := He.free_ok X G (c.fact 49 rfl)
  tup := He.free_ok X G (c.fact 50 rfl)
  lst := He.free_ok X G (c.fact 51 rfl)
  int := He.free_ok X G (c.fact 52 rfl)
  bool := He.free_ok X G (c.fact 53 rfl)
  set := He.free_ok X G (c.fact 54 rfl)
  zip := He.free_ok X G (c.fact 55 rfl)
  rng := He.free_ok X G (c.fact 56 rfl)
  max := He.free_ok X G (c.fact 57 rfl)
  min := He.free_ok X G (c.fact 58 rfl)
  ls := He.str_ok X G (c.fact 59 rfl)
/-- all promises put together -/
theorem law_E {T : List NTab} {P1 P2 : Addr} (X : K.In base) (G0 : base.Ns mainGlobals mg) (c : He.SaysD faE fnE K) (nc : ncB K = true) (T1 : TabB base mg (He.cT K ("source", none)).1 P1) (T2 : TabB base mg (He.cT K ("shows", none)).1 P2)
    (m1 : (P1, nmT) ∈ T) (m2 : (P2, nmT) ∈ T) (hu : ∀ p ∈ T, p.2 = nmT) : Df P w K mg base 10 "law" ["_law_script"] (spLawL K T) := by
  have G := gb_E X G0 c
  have NB := ncB_ok X nc
  have a {i : Nat} {x : Str} (j : Nat) (h1 : fnE[j]? = some (dd i x) := by rfl) (h2 : faE[j]? = some (.glo x) := by rfl) : At K mg i x := at_E X G0 c j h1 h2
  have dWhole : Df P w K mg base 1 "is_whole" ["value"] spWhole := ok_is_whole (a 0) G
  have dLine : Df P w K mg base 1 "is_line" ["value"] spLine := ok_is_line (a 1) G
  have dWord : Df P w K mg base 2 "is_word" ["value", "least", "most"] spWord := ok_is_word (a 2) G dLine
  have dLet : Df P w K mg base 3 "are_letters" ["value"] spLetters := ok_are_letters (a 3) G dWord
  have dOrd : Df P w K mg base 4 "is_order" ["value"] spOrder := ok_is_order (a 4) G dWord dWhole dLet
  have dCO : Df P w K mg base 5 "check_orders" ["value"] spCheckO := ok_check_orders (a 5) G dOrd
  have dCL : Df P w K mg base 2 "check_line" ["value"] spCheckL := ok_check_line (a 6) dLine
  have dDone : Df P w K mg base 1 "done" ["order", "line"] spDone := ok_done NB (a 7) G
  have dPl : Df P w K mg base 6 "played" ["orders", "line"] spPlayed := ok_played (a 8) dCO dCL dDone
  have dFed : Df P w K mg base 2 "fed" ["order", "state", "sign"] spFed := ok_fed (a 9) G dDone
  have dLed : Df P w K mg base 3 "led" ["order", "state", "signs"] spLed := ok_led (a 10) dFed
  have dBeg : Df P w K mg base 4 "begun" ["orders"] spBegun := ok_begun (a 11) G dLed
  have dPu : Df P w K mg base 4 "pushed" ["orders", "states", "sign"] spPushed := ok_pushed (a 12) G dLed
  have dEn : Df P w K mg base 4 "ended" ["orders", "states"] spEnded := ok_ended (a 13) G dLed
  have dSi : Df P w K mg base 1 "signs_in" ["order"] spSignsIn := ok_signs_in (a 14) G
  have dSf : Df P w K mg base 2 "signs_for" ["orders", "word", "more"] spSignsFor := ok_signs_for (a 15) G dSi
  have dAp : Df P w K mg base 1 "apart" ["one", "other"] spApart := ok_apart (a 16) G
  have dPa : Df P w K mg base 5 "parts_here" ["one", "other", "node"] spParts := ok_parts (a 17) dEn
  have dFi : Df P w K mg base 6 "first_unlike" ["one", "other"] spFirst := ok_first (a 18) G dBeg dAp dPa dSf dPu
  have dUn : Df P w K mg base 7 "unlike_line" ["one", "other"] spUnlike := ok_Unlike (a 19) dCO dFi
  have dAl : Df P w K mg base 8 "alike_lines" ["one", "other"] spAlike := ok_Alike (a 20) dUn
  have dCm : Df P w K mg base 7 "commute_lines" ["one", "other"] spCommute := ok_Commute (a 21) dCO dFi
  have dId : Df P w K mg base 7 "idle_lines" ["orders"] spIdle := ok_Idle (a 22) dCO dFi
  have dSe : Df P w K mg base 7 "settled" ["orders"] spSettled := ok_Settled (a 23) dCO dFi
  have dUd : Df P w K mg base 7 "undoes" ["one", "other"] spUndoes := ok_Undoes (a 24) dCO dFi
  have s1 := atC_E (i := 34) (x := "source") X G0 c 26
  have s2 := atC_E (i := 35) (x := "shows") X G0 c 27
  have dSo : Df P w K mg base 7 "source" ["orders", "line"] (spSource T) := ok_source s1 (a 25) G T1 m1 (fun p hp _ => hu p hp) dCO dCL dSf dBeg dEn dPu
  have dSh : Df P w K mg base 7 "shows" ["orders", "word"] (spShows T) := ok_shows s2 (a 25) G T2 m2 (fun p hp _ => hu p hp) dCO dWord dSf dBeg dEn dPu
  have lPu : Df P w K mg base 1 "_law_pump" ["_law_script", "_law_at"] (spPump K) := ok_pump (a 28) G
  have lCu : Df P w K mg base 1 "_law_cup" ["_law_pump_here", "_law_many"] spCup := ok_cup (a 29) G
  have lOn : Df P w K mg base 2 "_law_one_of" ["_law_pump_here", "_law_some"] spOneOf := ok_oneof (a 30) G lCu
  have lWo : Df P w K mg base 2 "_law_word" ["_law_pump_here", "_law_letters_here", "_law_least", "_law_most"] spWordL := ok_word (a 31) G lCu
  have lWK : DfK P w K mg base 2 "_law_word" ["_law_pump_here", "_law_letters_here", "_law_least", "_law_most"] spWordK := ok_wordK (a 31) G lCu
  have lLe : Df P w K mg base 3 "_law_letters" ["_law_pump_here", "_law_some"] spLettersL := ok_lettersL (a 32) G lCu lOn
  have lOr : Df P w K mg base 4 "_law_order" ["_law_pump_here", "_law_letters_here", "_law_drops"] spOrderL := ok_orderL (a 33) G lCu lWo lWK lLe
  have lOs : Df P w K mg base 5 "_law_orders" ["_law_pump_here", "_law_letters_here", "_law_most", "_law_drops"] spOrdersL := ok_ordersL (a 34) G lCu lOr
  have lSa : Df P w K mg base 2 "_law_same" ["_law_pump_here", "_law_orders_it", "_law_word_it"] spSame := ok_same (a 35) G lCu
  have lKn : Df P w K mg base 2 "_law_known" ["_law_pump_here", "_law_word_it", "_law_other_it"] spKnown := ok_known (a 36) G lCu
  have lRi : Df P w K mg base 9 "_law_right" ["_law_one_it", "_law_other_it", "_law_third"] spRight := ok_right (a 37) dUn dAl dPl dCm dUd dId
  have lNa : DfK P w K mg base 2 "_law_names" ["_law_pump_here"] (spNamesK P w) := ok_namesK (a 38) G lCu
  have lTu : DfK P w K mg base 1 "_law_turned" ["_law_names_here", "_law_line_it"] (spTurnedK P w) := ok_turnedK (a 39) G
  have lTo : DfK P w K mg base 2 "_law_turned_order" ["_law_names_here", "_law_order_here"] (spTOrderK P w) := ok_torder (a 40) G lTu
  have lSz : Df P w K mg base 1 "_law_size" ["_law_line_it"] spSize := ok_size (a 41) G
  have lEx : Df P w K mg base 8 "_law_exchanged" ["_law_pump_here", "_law_one_it", "_law_other_it", "_law_word_it"] (spExch T) := ok_exch (a 42) lNa lTu lTo lSz dUn dId dPl dSo dSh
  have lHa : Df P w K mg base 1 "_law_handed" [] spHanded := ok_handed (a 43)
  have lHr : Df P w K mg base 9 "_law_handed_right" [] (spHRight T) := ok_hright (a 44) lHa dUn dAl dPl dCm dUd dId dSe dSo dSh
  have lNm : Df P w K mg base 9 "_law_named" ["_law_one_it", "_law_other_it"] (spNamed T) := ok_named (a 45) dUn dAl dPl dCm dUd dId dSe dSo dSh (a 19).k (a 20).k (a 8).k (a 21).k (a 24).k (a 22).k (a 23).k s1.k s2.k
  exact ok_law (a 46) G lPu lCu lWo lOs lSa dAl lRi lEx lKn lNm lHr
end
end Ev
set_option Elab.async false
set_option linter.all false
set_option maxRecDepth 100000
set_option maxHeartbeats 0
namespace Ev
open PySem PySem.Spec PyProof.Rows L2
/-! ### the head -/
abbrev Ro : PySem.W.OpenRow := PySem.W.OpenLaw.row PySem.Challenge.rw_everrow_k45_whole_orders_put_together
def ob (s : PySem.W.SharedT) : He.AlX := obE (HandSHeadRun.getT s)
theorem ob_eq (s : PySem.W.SharedT) : ob s = hkE.obs s.abs := by
  have e : HandSHeadRun.getT s = s.abs.heap.get? := funext fun a => HandSHeadRun.getT_eq s a
  unfold ob
  rw [e]
  rfl
abbrev loose : List PySem.Str := (["RowError", "InvalidList", "InvalidItem", "InvalidText", "is_whole", "LINE_SIGNS", "is_line", "is_word", "are_letters", "is_order", "check_orders", "check_line", "done", "played", "fed", "led", "begun", "pushed", "ended", "signs_in", "signs_for", "apart", "parts_here", "first_unlike", "unlike_line", "alike_lines", "commute_lines", "idle_lines", "settled", "undoes"] : List PySem.Str) ++
  (["least_line", "source", "shows", "_law_pump", "_law_cup", "_law_one_of", "_law_word", "_law_letters", "_law_order", "_law_orders", "_law_same", "_law_known", "_law_right", "_law_names", "_law_turned", "_law_turned_order", "_law_size", "_law_exchanged", "_law_handed", "_law_handed_right", "_law_named"] : List PySem.Str)
theorem run (w : World) : HandSHeadRun.RunEq Ro (PySem.W.view Ro.prog [55]) hkE ob 4000 loose w := by
  intro os
  kernel_rfl
end Ev
set_option Elab.async false
set_option linter.all false
set_option maxRecDepth 100000
set_option maxHeartbeats 0
namespace Ev
open PySem PySem.Spec PyProof.Rows L2 LamX NdefX
theorem facts {w : World} {K : PySem.W.Frag} {h : Heap} {mg : Str → Option Value} {f : Addr} (X : K.In h) (G0 : h.Ns mainGlobals mg) (hfa : mg ("law" : Str) = some (.ref f)) (c : He.SaysX faE fnE [] tfE ncB w h K) :
    LawAtS PySem.Challenge.rw_everrow_k45_whole_orders_put_together w K CX0 10 63 "_law_script" mg f h := by
  have cd := c.t.d
  obtain ⟨f0, fd, F, g⟩ := at_E (i := 55) (x := "law") X G0 cd 46
  obtain rfl : f = f0 := by
    rw [hfa] at g
    cases g; rfl
  have b := FunD.bindsA (ps := ["_law_script"]) F fun _ _ _ _ _ _ us hl => match us, hl with | [_], _ => rfl
  refine ⟨fd, [He.cT K ("source", none), He.cT K ("shows", none)], spLawL K [((He.cT K ("source", none)).2, nmT), ((He.cT K ("shows", none)).2, nmT)], fun p hp => ?_, fun p hp => ?_, fun p hp => ?_, fun s u => b s [u] rfl, fun H a ns hl _ hH hS => ?_, fun base X' G' TB => ?_⟩
  · rcases List.mem_cons.mp hp with rfl | hp
    · exact c.empty _ (by unfold tfE; exact List.mem_cons_self)
    · rw [List.mem_singleton.mp hp]
      exact c.empty _ (by unfold tfE; exact List.mem_cons_of_mem _ List.mem_cons_self)
  · rcases List.mem_cons.mp hp with rfl | hp
    · exact c.out _ (by unfold tfE; exact List.mem_cons_self)
    · rw [List.mem_singleton.mp hp]
      exact c.out _ (by unfold tfE; exact List.mem_cons_of_mem _ List.mem_cons_self)
  · rcases List.mem_cons.mp hp with rfl | hp
    · exact PySem.W.codeHd_of_K X (c.hd _ (by unfold tfE; exact List.mem_cons_self))
    · rw [List.mem_singleton.mp hp]
      exact PySem.W.codeHd_of_K X (c.hd _ (by unfold tfE; exact List.mem_cons_of_mem _ List.mem_cons_self))
  · refine ⟨a, ns, rfl, hS, hl, fun p hp => ?_, fun _ => rfl⟩
    rcases List.mem_cons.mp hp with rfl | hp
    · exact TabN.nil (hH _ List.mem_cons_self)
    · rw [List.mem_singleton.mp hp]
      exact TabN.nil (hH _ (List.mem_cons_of_mem _ List.mem_cons_self))
  · have D := law_E (P := (PySem.Challenge.rw_everrow_k45_whole_orders_put_together).prog) (w := w) (T := [((He.cT K ("source", none)).2, nmT), ((He.cT K ("shows", none)).2, nmT)]) X' G' cd c.more (TB _ List.mem_cons_self) (TB _ (List.mem_cons_of_mem _ List.mem_cons_self)) List.mem_cons_self (List.mem_cons_of_mem _ List.mem_cons_self) (fun p hp => by
      rcases List.mem_cons.mp hp with rfl | hp
      · rfl
      · rw [List.mem_singleton.mp hp])
    obtain ⟨f1, fd1, Fk, g1, _, _, i1, FD1⟩ := D.ex
    obtain rfl : f = f1 := by
      rw [hfa] at g1
      cases g1; rfl
    obtain ⟨oc, od, dV, kV, doc, pm, an, cdv, ct, osl, rfl, lk, _⟩ := F.ex
    obtain ⟨oc2, od2, dV2, kV2, doc2, pm2, an2, cdv2, ct2, osl2, rfl, lk2, _⟩ := FD1.ex
    have e := congrArg (fun o : Option Obj => o.map (·.data)) (lk2.symm.trans lk)
    have e2 : PySem.W.fnOf ("law" : Str) "law" (defArgs (top i1)) (defBody (top i1)) (defScope (top i1)) dV2 kV2 doc2 pm2 an2 cdv2 ct2 = PySem.W.fnOf ("law" : Str) "law" (defArgs (top 55)) (defBody (top 55)) (defScope (top 55)) dV kV doc pm an cdv ct := by
      simpa using e
    rw [e2] at Fk
    exact Fk
end Ev
open PySem PySem.W PySem.Calls PyProof.Rows
theorem PySem.Challenge.cw_everrow_k45_whole_orders_put_together_holds : PySem.Challenge.rw_everrow_k45_whole_orders_put_together.Holds := by
  w_on; o_law
  refine HandSHeadRun.head_any (r := OpenLaw.row PySem.Challenge.rw_everrow_k45_whole_orders_put_together) (q := view (OpenLaw.row PySem.Challenge.rw_everrow_k45_whole_orders_put_together).prog [55]) (H := Ev.hkE) (ob := Ev.ob) (M := 4000) (loose := Ev.loose) (d := HandSHeadRun.topDef (OpenLaw.row PySem.Challenge.rw_everrow_k45_whole_orders_put_together).prog 55) (kwd := []) Ev.ob_eq
    (by kernel_rfl) (fun s => by kernel_rfl) Ev.run (by kernel_rfl) (by kernel_rfl) (by kernel_rfl) (by rfl) (by first | assumption | decide +kernel) (by decide +kernel) ⟨rfl, rfl, rfl, rfl, rfl, by decide +kernel⟩ ?hw ?hc
  case hw => w_witness2
  case hc =>
    refine LamX.walk_ofTsE (l := PySem.Challenge.rw_everrow_k45_whole_orders_put_together) (n := 63) (k := 10) (x := "_law_script") (CX := fun _ => L2.CX0) rfl (by decide) (by kernel_rfl) ⟨rfl, by decide, by decide⟩ ?F (fun _ _ _ _ _ z => z)
    intro w mg fa h Y G hmg0
    obtain ⟨K, KX, c⟩ := Y
    have hmg : mg ("law" : PySem.Str) = some (.ref fa) := by
      have e : (HandSHeadRun.topDef (OpenLaw.row PySem.Challenge.rw_everrow_k45_whole_orders_put_together).prog 55).name = ("law" : PySem.Str) := by kernel_rfl
      rw [← e]
      exact hmg0
    exact ⟨K, KX, Ev.facts KX G hmg c⟩
